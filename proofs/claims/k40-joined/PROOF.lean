import PyProof.Rows.All
import Wide.All
import OpenK.AllK
import Wide.FinOn
import KE.KStateDown
import HandS.Base
import HandS.Call
import HandS.Ends
import HandS.More
import HandS.Words
import HandS.WordsExc
import HandS.Defaults
import HandS.Head0
import HandS.Head1
import HandS.Head2
import HandS.HeadEnd
import HandS.HeadHook1
import HandS.HeadHook2
import KE.SortData
import KE.SortKeyHeap
import KE.KMinBuiltin
import HandS.List
import HandS.Comp
import HandS.Dict
import HandS.Iter
import HandS.Text
import HandS.WordsList
import HandS.WordsDict
import HandS.IsInst
import HandS.TupAny
import HandS.SortKw
import HandS.Set
import HandS.TupSets
import HandS.Evl
import HandS.Wide
import HandS.Deep
import HandS.EndBits
import HandS.SetFor
import HandS.DictComp
import KE.GoesEnum
import KE.OsSortAny
import HandS.TupLe
import PySem.Challenge.RW_joinedtrees_k40_whole_forests_side_by_si
set_option Elab.async false
set_option linter.all false
set_option maxRecDepth 100000
set_option maxHeartbeats 0
namespace Jt
open PySem PySem.Spec PyProof.Rows L2
def top (i : Nat) : Stmt := PySem.Challenge.pw_joinedtrees_k40_whole_forests_side_by_si.main.body.getD i (.Pass ⟨0, 0, 0, 0⟩)
abbrev s_isname : Stmt := top 3
abbrev s_islot : Stmt := top 4
abbrev s_firstname : Stmt := top 5
abbrev s_standing : Stmt := top 6
abbrev s_forkof : Stmt := top 7
abbrev s_namesin : Stmt := top 8
abbrev s_lotsbelow : Stmt := top 9
abbrev s_lotsof : Stmt := top 10
abbrev s_partto : Stmt := top 11
abbrev s_treeto : Stmt := top 12
abbrev s_nodesof : Stmt := top 14
abbrev s_hasall : Stmt := top 15
abbrev s_headof : Stmt := top 16
abbrev s_wayof : Stmt := top 17
abbrev s_areapart : Stmt := top 18
abbrev s_areparts : Stmt := top 19
abbrev s_share : Stmt := top 20
abbrev s_headsin : Stmt := top 21
abbrev s_isabove : Stmt := top 22
abbrev s_orderof : Stmt := top 23
abbrev s_letsforest : Stmt := top 24
abbrev s_longerones : Stmt := top 26
abbrev s_lookedfor : Stmt := top 27
abbrev s_fewestforest : Stmt := top 28
abbrev s_Lpen : Stmt := top 30
abbrev s_Ldraw : Stmt := top 31
abbrev s_Lnames : Stmt := top 32
abbrev s_Lleast : Stmt := top 33
abbrev s_Lfork : Stmt := top 34
abbrev s_Ltree : Stmt := top 35
abbrev s_Lbelow : Stmt := top 36
abbrev s_Lto : Stmt := top 37
abbrev s_Llots : Stmt := top 38
abbrev s_Ltwo : Stmt := top 39
abbrev s_Lbeside : Stmt := top 40
abbrev s_Lmany : Stmt := top 41
abbrev s_Lnamed : Stmt := top 42
abbrev s_Lelsewhere : Stmt := top 43
abbrev s_Lhung : Stmt := top 44
abbrev s_law : Stmt := top 45
def d_isname : He.DefD := ⟨("is_name", none), "is_name", "is_name", defArgs s_isname, defBody s_isname, defScope s_isname, [], []⟩
def d_islot : He.DefD := ⟨("is_lot", none), "is_lot", "is_lot", defArgs s_islot, defBody s_islot, defScope s_islot, [], []⟩
def d_firstname : He.DefD := ⟨("first_name", none), "first_name", "first_name", defArgs s_firstname, defBody s_firstname, defScope s_firstname, [], []⟩
def d_standing : He.DefD := ⟨("standing", none), "standing", "standing", defArgs s_standing, defBody s_standing, defScope s_standing, [], []⟩
def d_forkof : He.DefD := ⟨("fork_of", none), "fork_of", "fork_of", defArgs s_forkof, defBody s_forkof, defScope s_forkof, [], []⟩
def d_namesin : He.DefD := ⟨("names_in", none), "names_in", "names_in", defArgs s_namesin, defBody s_namesin, defScope s_namesin, [], []⟩
def d_lotsbelow : He.DefD := ⟨("lots_below", none), "lots_below", "lots_below", defArgs s_lotsbelow, defBody s_lotsbelow, defScope s_lotsbelow, [], []⟩
def d_lotsof : He.DefD := ⟨("lots_of", none), "lots_of", "lots_of", defArgs s_lotsof, defBody s_lotsof, defScope s_lotsof, [], []⟩
def d_partto : He.DefD := ⟨("part_to", none), "part_to", "part_to", defArgs s_partto, defBody s_partto, defScope s_partto, [], []⟩
def d_treeto : He.DefD := ⟨("tree_to", none), "tree_to", "tree_to", defArgs s_treeto, defBody s_treeto, defScope s_treeto, [], []⟩
def d_nodesof : He.DefD := ⟨("nodes_of", none), "nodes_of", "nodes_of", defArgs s_nodesof, defBody s_nodesof, defScope s_nodesof, [], []⟩
def d_hasall : He.DefD := ⟨("has_all", none), "has_all", "has_all", defArgs s_hasall, defBody s_hasall, defScope s_hasall, [], []⟩
def d_headof : He.DefD := ⟨("head_of", none), "head_of", "head_of", defArgs s_headof, defBody s_headof, defScope s_headof, [], []⟩
def d_wayof : He.DefD := ⟨("way_of", none), "way_of", "way_of", defArgs s_wayof, defBody s_wayof, defScope s_wayof, [], [("is_top", .bl false)]⟩
def d_areapart : He.DefD := ⟨("are_apart", none), "are_apart", "are_apart", defArgs s_areapart, defBody s_areapart, defScope s_areapart, [], []⟩
def d_areparts : He.DefD := ⟨("are_parts", none), "are_parts", "are_parts", defArgs s_areparts, defBody s_areparts, defScope s_areparts, [], []⟩
def d_share : He.DefD := ⟨("share", none), "share", "share", defArgs s_share, defBody s_share, defScope s_share, [], []⟩
def d_headsin : He.DefD := ⟨("heads_in", none), "heads_in", "heads_in", defArgs s_headsin, defBody s_headsin, defScope s_headsin, [], []⟩
def d_isabove : He.DefD := ⟨("is_above", none), "is_above", "is_above", defArgs s_isabove, defBody s_isabove, defScope s_isabove, [], []⟩
def d_orderof : He.DefD := ⟨("order_of", none), "order_of", "order_of", defArgs s_orderof, defBody s_orderof, defScope s_orderof, [], []⟩
def d_letsforest : He.DefD := ⟨("lets_forest", none), "lets_forest", "lets_forest", defArgs s_letsforest, defBody s_letsforest, defScope s_letsforest, [], [("ringless", .bl false)]⟩
def d_longerones : He.DefD := ⟨("longer_ones", none), "longer_ones", "longer_ones", defArgs s_longerones, defBody s_longerones, defScope s_longerones, [], []⟩
def d_lookedfor : He.DefD := ⟨("looked_for", none), "looked_for", "looked_for", defArgs s_lookedfor, defBody s_lookedfor, defScope s_lookedfor, [], []⟩
def d_fewestforest : He.DefD := ⟨("fewest_forest", none), "fewest_forest", "fewest_forest", defArgs s_fewestforest, defBody s_fewestforest, defScope s_fewestforest, [], [("ringless", .bl false)]⟩
def d_Lpen : He.DefD := ⟨("_law_pen", none), "_law_pen", "_law_pen", defArgs s_Lpen, defBody s_Lpen, defScope s_Lpen, [], []⟩
def d_Ldraw : He.DefD := ⟨("_law_draw", none), "_law_draw", "_law_draw", defArgs s_Ldraw, defBody s_Ldraw, defScope s_Ldraw, [], []⟩
def d_Lnames : He.DefD := ⟨("_law_names", none), "_law_names", "_law_names", defArgs s_Lnames, defBody s_Lnames, defScope s_Lnames, [], []⟩
def d_Lleast : He.DefD := ⟨("_law_least", none), "_law_least", "_law_least", defArgs s_Lleast, defBody s_Lleast, defScope s_Lleast, [], []⟩
def d_Lfork : He.DefD := ⟨("_law_fork", none), "_law_fork", "_law_fork", defArgs s_Lfork, defBody s_Lfork, defScope s_Lfork, [], []⟩
def d_Ltree : He.DefD := ⟨("_law_tree", none), "_law_tree", "_law_tree", defArgs s_Ltree, defBody s_Ltree, defScope s_Ltree, [], []⟩
def d_Lbelow : He.DefD := ⟨("_law_below", none), "_law_below", "_law_below", defArgs s_Lbelow, defBody s_Lbelow, defScope s_Lbelow, [], []⟩
def d_Lto : He.DefD := ⟨("_law_to", none), "_law_to", "_law_to", defArgs s_Lto, defBody s_Lto, defScope s_Lto, [], []⟩
def d_Llots : He.DefD := ⟨("_law_lots", none), "_law_lots", "_law_lots", defArgs s_Llots, defBody s_Llots, defScope s_Llots, [], []⟩
def d_Ltwo : He.DefD := ⟨("_law_two", none), "_law_two", "_law_two", defArgs s_Ltwo, defBody s_Ltwo, defScope s_Ltwo, [], []⟩
def d_Lbeside : He.DefD := ⟨("_law_beside", none), "_law_beside", "_law_beside", defArgs s_Lbeside, defBody s_Lbeside, defScope s_Lbeside, [], []⟩
def d_Lmany : He.DefD := ⟨("_law_many", none), "_law_many", "_law_many", defArgs s_Lmany, defBody s_Lmany, defScope s_Lmany, [], []⟩
def d_Lnamed : He.DefD := ⟨("_law_named", none), "_law_named", "_law_named", defArgs s_Lnamed, defBody s_Lnamed, defScope s_Lnamed, [], []⟩
def d_Lelsewhere : He.DefD := ⟨("_law_elsewhere", none), "_law_elsewhere", "_law_elsewhere", defArgs s_Lelsewhere, defBody s_Lelsewhere, defScope s_Lelsewhere, [], []⟩
def d_Lhung : He.DefD := ⟨("_law_hung", none), "_law_hung", "_law_hung", defArgs s_Lhung, defBody s_Lhung, defScope s_Lhung, [], []⟩
def d_law : He.DefD := ⟨("law", none), "law", "law", defArgs s_law, defBody s_law, defScope s_law, [], []⟩
def fn : List He.DefD := [d_isname, d_islot, d_firstname, d_standing, d_forkof, d_namesin, d_lotsbelow, d_lotsof, d_partto, d_treeto, d_nodesof, d_hasall, d_headof, d_wayof, d_areapart, d_areparts, d_share, d_headsin, d_isabove, d_orderof] ++ [d_letsforest, d_longerones, d_lookedfor, d_fewestforest, d_Lpen, d_Ldraw, d_Lnames, d_Lleast, d_Lfork, d_Ltree, d_Lbelow, d_Lto, d_Llots, d_Ltwo, d_Lbeside, d_Lmany, d_Lnamed, d_Lelsewhere, d_Lhung, d_law]
def fa : List He.Fa := [.glo "is_name", .glo "is_lot", .glo "first_name", .glo "standing", .glo "fork_of", .glo "names_in", .glo "lots_below", .glo "lots_of", .glo "part_to", .glo "tree_to", .glo "nodes_of", .glo "has_all", .glo "head_of", .glo "way_of", .glo "are_apart", .glo "are_parts", .glo "share", .glo "heads_in", .glo "is_above", .glo "order_of", .glo "lets_forest", .glo "longer_ones", .glo "looked_for", .glo "fewest_forest", .glo "_law_pen", .glo "_law_draw", .glo "_law_names", .glo "_law_least", .glo "_law_fork", .glo "_law_tree"] ++ [.glo "_law_below", .glo "_law_to", .glo "_law_lots", .glo "_law_two", .glo "_law_beside", .glo "_law_many", .glo "_law_named", .glo "_law_elsewhere", .glo "_law_hung", .glo "law", .free "isinstance", .free "str", .free "tuple", .free "list", .free "len", .free "all", .free "any", .free "sorted", .free "min", .free "set", .free "range", .free "enumerate", .free "abs", .free "int", .str "LETTERS" "abcdefghijklmnopqrstuvwxyz", .int "LONGEST" 8]
def loose1 : List Str := ["LETTERS", "LONGEST", "is_name", "is_lot", "first_name", "standing", "fork_of", "names_in", "lots_below", "lots_of", "part_to", "tree_to", "nodes_of", "has_all", "head_of", "way_of", "are_apart", "are_parts", "share", "heads_in", "is_above"]
def loose2 : List Str := ["order_of", "lets_forest", "longer_ones", "looked_for", "fewest_forest", "_law_pen", "_law_draw", "_law_names", "_law_least", "_law_fork", "_law_tree", "_law_below", "_law_to", "_law_lots", "_law_two", "_law_beside", "_law_many", "_law_named", "_law_elsewhere", "_law_hung"]
def loose : List Str := loose1 ++ loose2
abbrev R : PySem.W.OpenRow := PySem.W.OpenLaw.row PySem.Challenge.rw_joinedtrees_k40_whole_forests_side_by_si
abbrev hk : PySem.W.Hook := He.hookD 4 fa fn
def ob (s : PySem.W.SharedT) : He.AlD := He.obsDG 4 fa fn (HandSHeadRun.getT s)
theorem ob_eq (s : PySem.W.SharedT) : ob s = hk.obs s.abs := He.obsDG_eq (HandSHeadRun.getT_eq s)
theorem run (w : World) : HandSHeadRun.RunEq R (PySem.W.view R.prog [45]) hk ob 2000 loose w := by
  intro os
  kernel_rfl
end Jt

set_option Elab.async false
set_option linter.all false
set_option maxRecDepth 100000
set_option maxHeartbeats 4000000
/-! The pure-data layer: Dp under growing heaps, what a reading evaluates to as data. -/
namespace Jt
open PySem PySem.Spec PyProof.Rows L2

abbrev Ex := Evl.Ex
abbrev St := L2.St
/-! a value that reads as data; its tuples are known to the heap. Dicts: keys are tuples of texts -/
mutual
inductive Dp (K : PySem.W.Frag) (H : Hp) : V → PyData → Prop
  | non : Dp K H .non .none
  | bl (b : Bool) : Dp K H (.bl b) (.bool b)
  | int (i : Int) : Dp K H (.int i) (.int i)
  | str (x : Str) : Dp K H (.str x) (.str x)
  | lst {a : Addr} {xs : List V} {ds : List PyData} : SqL K H a xs → DpAll K H xs ds → Dp K H (.ref a) (.list ds)
  | tup {a : Addr} {xs : List V} {ds : List PyData} : H a = some (.tup xs) → DpAll K H xs ds → Dp K H (.ref a) (.tuple ds)
  | dct {a : Addr} {kvs : List (List Key × V)} {ps : List (PyData × PyData)} : H a = some (.dT kvs) → DctAll K H kvs ps → Dp K H (.ref a) (.dict ps)
inductive DpAll (K : PySem.W.Frag) (H : Hp) : List V → List PyData → Prop
  | nil : DpAll K H [] []
  | cons {v : V} {vs : List V} {d : PyData} {ds : List PyData} : Dp K H v d → DpAll K H vs ds → DpAll K H (v :: vs) (d :: ds)
inductive DctAll (K : PySem.W.Frag) (H : Hp) : List (List Key × V) → List (PyData × PyData) → Prop
  | nil : DctAll K H [] []
  | cons {ks : List Str} {v : V} {kvs : List (List Key × V)} {d : PyData} {ps : List (PyData × PyData)} : Dp K H v d → DctAll K H kvs ps → DctAll K H ((ks.map Sum.inr, v) :: kvs) ((.tuple (ks.map .str), d) :: ps)
end
/-! data without dicts -/
mutual
def nd : PyData → Bool
  | .list ds => ndAll ds
  | .tuple ds => ndAll ds
  | .dict _ => false
  | _ => true
def ndAll : List PyData → Bool
  | [] => true
  | d :: ds => nd d && ndAll ds
end
section
variable {K : PySem.W.Frag} {H H' : Hp}
mutual
theorem dp_l2 : ∀ (d : PyData) (v : V), nd d = true → Dp K H v d → L2.Dp K H v d
  | .none, _, _, h => by cases h; exact .non
  | .bool b, _, _, h => by cases h; exact .bl b
  | .int i, _, _, h => by cases h; exact .int i
  | .str x, _, _, h => by cases h; exact .str x
  | .list ds, _, n, h => by
    cases h with
    | lst hs ha => exact .lst hs (dpAll_l2 ds _ (by simpa [nd] using n) ha)
  | .tuple ds, _, n, h => by
    cases h with
    | tup hs ha => exact .tup (SqT.of hs) (dpAll_l2 ds _ (by simpa [nd] using n) ha)
  | .dict _, _, n, _ => by simp [nd] at n
theorem dpAll_l2 : ∀ (ds : List PyData) (vs : List V), ndAll ds = true → DpAll K H vs ds → L2.DpAll K H vs ds
  | [], _, _, h => by cases h; exact .nil
  | d :: ds, _, n, h => by
    cases h with
    | cons h1 h2 =>
      have n2 : nd d = true ∧ ndAll ds = true := by simpa [ndAll] using n
      exact .cons (dp_l2 d _ n2.1 h1) (dpAll_l2 ds _ n2.2 h2)
end
mutual
theorem dp_mono (e : Ex H H') : ∀ (d : PyData) (v : V), Dp K H v d → Dp K H' v d
  | .none, _, h => by cases h; exact .non
  | .bool b, _, h => by cases h; exact .bl b
  | .int i, _, h => by cases h; exact .int i
  | .str x, _, h => by cases h; exact .str x
  | .list ds, _, h => by
    cases h with
    | lst hs ha => exact .lst (Evl.ex_l e hs) (dpAll_mono e ds _ ha)
  | .tuple ds, _, h => by
    cases h with
    | tup hs ha => exact .tup (e _ _ hs) (dpAll_mono e ds _ ha)
  | .dict ps, _, h => by
    cases h with
    | dct hs ha => exact .dct (e _ _ hs) (dctAll_mono e ps _ ha)
theorem dpAll_mono (e : Ex H H') : ∀ (ds : List PyData) (vs : List V), DpAll K H vs ds → DpAll K H' vs ds
  | [], _, h => by cases h; exact .nil
  | d :: ds, _, h => by
    cases h with
    | cons h1 h2 => exact .cons (dp_mono e d _ h1) (dpAll_mono e ds _ h2)
theorem dctAll_mono (e : Ex H H') : ∀ (ps : List (PyData × PyData)) (kvs : List (List Key × V)), DctAll K H kvs ps → DctAll K H' kvs ps
  | [], _, h => by cases h; exact .nil
  | (_, d) :: ps, _, h => by
    cases h with
    | cons h1 h2 => exact .cons (dp_mono e d _ h1) (dctAll_mono e ps _ h2)
end

/-- Hb: what may be read of H; then Hb' of the later H' : nothing that H had beside Hb -/
structure Kn (Hb H Hb' H' : Hp) : Prop where
  cur : Ex H H'
  bas : Ex Hb Hb'
  sub : Ex Hb' H'
  nw : ∀ a o, Hb' a = some o → Hb a ≠ none ∨ H a = none
theorem Kn.refl {Hb H : Hp} (e : Ex Hb H) : Kn Hb H Hb H := ⟨Evl.Ex.refl _, Evl.Ex.refl _, e, fun a o h => .inl (by rw [h]; exact Option.some_ne_none _)⟩
theorem none_back {H H' : Hp} {a : Addr} (e : Ex H H') (h : H' a = none) : H a = none := Evl.fresh_back e h
theorem Kn.trans {Hb H Hb1 H1 Hb2 H2 : Hp} (a : Kn Hb H Hb1 H1) (b : Kn Hb1 H1 Hb2 H2) : Kn Hb H Hb2 H2 :=
  ⟨a.cur.trans b.cur, a.bas.trans b.bas, b.sub, fun x o h => by
    rcases b.nw x o h with q | q
    · cases e : Hb1 x with
      | none => exact absurd e q
      | some u => exact a.nw x u e
    · exact .inr (none_back a.cur q)⟩
/-- a new object -/
theorem Kn.new {Hb H : Hp} {p : Addr} {o : HO} (e : Ex Hb H) (h : H p = none) : Kn Hb H (upd Hb p o) (upd H p o) where
  cur := Evl.Ex.new h
  bas := Evl.Ex.new (none_back e h)
  sub := fun a u q => by
    by_cases hp : a = p
    · subst hp; rw [upd_same] at q ⊢; exact q
    · rw [upd_ne hp] at q ⊢; exact e a u q
  nw := fun a u q => by
    by_cases hp : a = p
    · subst hp; exact .inr h
    · rw [upd_ne hp] at q; exact .inl (by rw [q]; exact Option.some_ne_none _)
/-- .. that is not to be read as data (it will change) -/
theorem Kn.mut {Hb H : Hp} {p : Addr} {o : HO} (e : Ex Hb H) (h : H p = none) : Kn Hb H Hb (upd H p o) where
  cur := Evl.Ex.new h
  bas := Evl.Ex.refl _
  sub := e.trans (Evl.Ex.new h)
  nw := fun a u q => .inl (by rw [q]; exact Option.some_ne_none _)
theorem Kn.hid {Hb H Hb' H' : Hp} (k : Kn Hb H Hb' H') {a : Addr} {o : HO} (h : Hb a = none) (hc : H a = some o) : Hb' a = none ∧ H' a = some o := by
  refine ⟨?_, k.cur a o hc⟩
  cases e : Hb' a with
  | none => rfl
  | some u =>
    rcases k.nw a u e with q | q
    · exact absurd h q
    · rw [hc] at q; cases q
/-- a changing object that is not read as data -/
theorem ex_hid {Hb H : Hp} {p : Addr} {o : HO} (e : Ex Hb H) (h : Hb p = none) : Ex Hb (upd H p o) := Evl.Ex.mut e h
/-- two readable parts of one heap, together -/
def join (A B : Hp) : Hp := fun a => match A a with
  | some o => some o
  | none => B a
theorem join_l {A B : Hp} : Ex A (join A B) := fun a o h => by unfold join; rw [h]
theorem join_r {A B H : Hp} (e : Ex A H) (f : Ex B H) : Ex B (join A B) := fun a o h => by
  unfold join
  cases q : A a with
  | none => exact h
  | some u =>
    have := e a u q
    rw [f a o h] at this
    exact this.symm
theorem join_sub {A B H : Hp} (e : Ex A H) (f : Ex B H) : Ex (join A B) H := fun a o h => by
  unfold join at h
  cases q : A a with
  | none => rw [q] at h; exact f a o h
  | some u =>
    rw [q] at h
    have hu : some u = some o := h
    rw [← hu]
    exact e a u q
/-- .. from a larger readable part -/
theorem Kn.up {Hb Hc H Hb' H' : Hp} (k : Kn Hb H Hb' H') (e : Ex Hb Hc) (f : Ex Hc H) : Kn Hc H (join Hc Hb') H' ∧ Ex Hb' (join Hc Hb') :=
  ⟨⟨k.cur, join_l, join_sub (f.trans k.cur) k.sub, fun a o h => by
    unfold join at h
    cases q : Hc a with
    | some u => exact .inl (by simp)
    | none =>
      rw [q] at h
      rcases k.nw a o h with z | z
      · cases w : Hb a with
        | none => exact absurd w z
        | some u2 => rw [e a u2 w] at q; cases q
      · exact .inr z⟩, join_r (f.trans k.cur) k.sub⟩
end

/-! ### what evaluates to which data -/
def EvD (K : PySem.W.Frag) (te : TE) (σ : St) (Hb : Hp) (d : PyData) : Prop := ∀ H, Ex Hb H → ∀ Q : VK, (∀ v Hb' H', Kn Hb H Hb' H' → Dp K Hb' v d → Q v H') → te σ H Q
/-- a new list, that may be changed: itself not among what is read -/
def EvN (K : PySem.W.Frag) (te : TE) (σ : St) (Hb : Hp) (ds : List PyData) : Prop := ∀ H, Ex Hb H → ∀ Q : VK, (∀ p xs Hb' H', Kn Hb H Hb' H' → H p = none → Hb' p = none → H' p = some (.lst xs) → DpAll K Hb' xs ds → Q (.ref p) H') → te σ H Q
def EvA (K : PySem.W.Frag) (ta : TA) (σ : St) (Hb : Hp) (ds : List PyData) : Prop := ∀ H, Ex Hb H → ∀ Q : List V → Hp → Prop, (∀ vs Hb' H', Kn Hb H Hb' H' → DpAll K Hb' vs ds → Q vs H') → ta σ H Q
abbrev EvT := Evl.EvT
/-- operations and calls by data -/
def RD (K : PySem.W.Frag) (r : R2) (a b c : PyData) : Prop := ∀ x y Hb H, Ex Hb H → Dp K Hb x a → Dp K Hb y b → ∀ Q : VK, (∀ v Hb' H', Kn Hb H Hb' H' → Dp K Hb' v c → Q v H') → r x y H Q
def RCD (K : PySem.W.Frag) (r : List V → Hp → VK → Prop) (as : List PyData) (c : PyData) : Prop := ∀ xs Hb H, Ex Hb H → DpAll K Hb xs as → ∀ Q : VK, (∀ v Hb' H', Kn Hb H Hb' H' → Dp K Hb' v c → Q v H') → r xs H Q
section
variable {K : PySem.W.Frag} {σ : St} {Hb Hc : Hp} {ta tb te : TE} {t u : TT} {a b c d : PyData} {ds : List PyData}
theorem EvD.mono (h : EvD K te σ Hb d) (e : Ex Hb Hc) : EvD K te σ Hc d := fun H f Q q => h H (e.trans f) Q fun v Hb' H' k hv => by
  obtain ⟨k1, k2⟩ := k.up e f
  exact q v _ H' k1 (dp_mono k2 d v hv)
theorem EvN.mono (h : EvN K te σ Hb ds) (e : Ex Hb Hc) : EvN K te σ Hc ds := fun H f Q q => h H (e.trans f) Q fun p xs Hb' H' k hp hb hl hx => by
  obtain ⟨k1, k2⟩ := k.up e f
  refine q p xs _ H' k1 hp ?_ hl (dpAll_mono k2 ds xs hx)
  show join Hc Hb' p = none
  unfold join
  rw [none_back f hp]
  exact hb
theorem EvA.mono {tr : TA} (h : EvA K tr σ Hb ds) (e : Ex Hb Hc) : EvA K tr σ Hc ds := fun H f Q q => h H (e.trans f) Q fun vs Hb' H' k hv => by
  obtain ⟨k1, k2⟩ := k.up e f
  exact q vs _ H' k1 (dpAll_mono k2 ds vs hv)
theorem EvT.mono {b : Bool} (h : EvT t σ Hb b) (e : Ex Hb Hc) : EvT t σ Hc b := Evl.EvT.mono e h
/-- a new list is a list -/
theorem EvN.asD (h : EvN K te σ Hb ds) : EvD K te σ Hb (.list ds) := fun H e Q q => h H e Q fun p xs Hb' H' k hp hb hl hx => by
  have hn : Ex Hb' (upd Hb' p (.lst xs)) := Evl.Ex.new hb
  refine q (.ref p) (upd Hb' p (.lst xs)) H' ⟨k.cur, k.bas.trans hn, fun a o z => ?_, fun a o z => ?_⟩ (.lst (.inl (.inl upd_same)) (dpAll_mono hn ds xs hx))
  · by_cases e2 : a = p
    · subst e2; rw [upd_same] at z; cases z; exact hl
    · rw [upd_ne e2] at z; exact k.sub a o z
  · by_cases e2 : a = p
    · subst e2; exact .inr hp
    · rw [upd_ne e2] at z; exact k.nw a o z
theorem evd_is (h : EvD K te σ Hb a) (e : a = b) : EvD K te σ Hb b := by rw [← e]; exact h
theorem evn_is {es : List PyData} (h : EvN K te σ Hb ds) (e : ds = es) : EvN K te σ Hb es := by rw [← e]; exact h
theorem evt_is {p q : Bool} (h : EvT t σ Hb p) (e : p = q) : EvT t σ Hb q := by rw [← e]; exact h
theorem evd_var {i : Nat} {v : V} (h : σ[i]? = some (some v)) (hv : Dp K Hb v d) : EvD K (tVar i) σ Hb d := fun H e Q q => ⟨v, h, q v Hb H (Kn.refl e) hv⟩
theorem evd_int {i : Int} : EvD K (tC (.int i)) σ Hb (.int i) := fun H e Q q => q _ Hb H (Kn.refl e) (.int i)
theorem evd_str {x : Str} : EvD K (tC (.str x)) σ Hb (.str x) := fun H e Q q => q _ Hb H (Kn.refl e) (.str x)
theorem evd_bl {x : Bool} : EvD K (tC (.bl x)) σ Hb (.bool x) := fun H e Q q => q _ Hb H (Kn.refl e) (.bl x)
theorem evd_non : EvD K (tC .non) σ Hb .none := fun H e Q q => q _ Hb H (Kn.refl e) .non
theorem evd_op {r : R2} (ha : EvD K ta σ Hb a) (hb : EvD K tb σ Hb b) (hr : RD K r a b c) : EvD K (tOp r ta tb) σ Hb c := fun H e Q q =>
  ha H e _ fun x H1 H2 k1 hx => hb.mono k1.bas H2 k1.sub _ fun y H3 H4 k2 hy => hr x y H3 H4 k2.sub (dp_mono k2.bas a x hx) hy Q fun v H5 H6 k3 hv => q v H5 H6 ((k1.trans k2).trans k3) hv
theorem eva_nil : EvA K tNil σ Hb [] := fun H e Q q => q [] Hb H (Kn.refl e) .nil
theorem eva_cons {tr : TA} (ha : EvD K ta σ Hb a) (hr : EvA K tr σ Hb ds) : EvA K (tCons ta tr) σ Hb (a :: ds) := fun H e Q q =>
  ha H e _ fun x H1 H2 k1 hx => hr.mono k1.bas H2 k1.sub _ fun xs H3 H4 k2 hxs => q (x :: xs) H3 H4 (k1.trans k2) (.cons (dp_mono k2.bas a x hx) hxs)
theorem dpAll_len {H : Hp} : ∀ {vs : List V} {ds : List PyData}, DpAll K H vs ds → vs.length = ds.length
  | _, _, .nil => rfl
  | _, _, .cons _ t => congrArg (· + 1) (dpAll_len t)
theorem evd_tup {tr : TA} (h : EvA K tr σ Hb ds) (hl : ds.length ≤ 100000 := by decide) : EvD K (tTup tr) σ Hb (.tuple ds) := fun H e Q q =>
  h H e _ fun vs H1 H2 k hv => ⟨Evl.sz_of (by rw [dpAll_len hv]; exact hl), fun p hp => q (.ref p) _ _ (k.trans (Kn.new k.sub hp)) (.tup upd_same (dpAll_mono (Evl.Ex.new (none_back k.sub hp)) ds vs hv))⟩
theorem evn_lst {tr : TA} (h : EvA K tr σ Hb ds) (hl : ds.length ≤ 100000 := by decide) : EvN K (tLst tr) σ Hb ds := fun H e Q q =>
  h H e _ fun vs H1 H2 k hv => ⟨Evl.sz_of (by rw [dpAll_len hv]; exact hl), fun p hp => q p vs H1 _ (k.trans (Kn.mut k.sub hp)) (none_back k.cur hp) (none_back k.sub hp) upd_same hv⟩
theorem evd_if {b : Bool} (h : EvT t σ Hb b) (h1 : b = true → EvD K ta σ Hb d) (h2 : b = false → EvD K tb σ Hb d) : EvD K (tIf t ta tb) σ Hb d := fun H e Q q => h H e _ fun H1 e1 => by
  have go : ∀ {tx : TE}, EvD K tx σ Hb d → tx σ H1 Q := fun hx => hx H1 (e.trans e1) Q fun v Hb' H' k hv => q v Hb' H' ⟨e1.trans k.cur, k.bas, k.sub, fun a o z => (k.nw a o z).imp id fun z => none_back e1 z⟩ hv
  cases b with
  | true => exact go (h1 rfl)
  | false => exact go (h2 rfl)
theorem evt_test {b : Bool} (h : EvD K te σ Hb (.bool b)) : EvT (tTest te) σ Hb b := fun H e Q q => h H e _ fun v Hb' H' k hv => by
  cases hv
  exact ⟨b, rfl, q H' k.cur⟩
theorem evt_B {b : Bool} (h : EvD K te σ Hb (.bool b)) : EvT (tB te) σ Hb b := fun H e Q q => h H e _ fun v Hb' H' k hv => by
  cases hv
  exact ⟨b, rfl, q H' k.cur⟩
theorem evt_and {p q : Bool} (h1 : EvT t σ Hb p) (h2 : p = true → EvT u σ Hb q) : EvT (tAnd t u) σ Hb (p && q) := Evl.et_and h1 h2
theorem evt_or {p q : Bool} (h1 : EvT t σ Hb p) (h2 : p = false → EvT u σ Hb q) : EvT (tOr t u) σ Hb (p || q) := Evl.et_or h1 h2
theorem evt_not {p : Bool} (h1 : EvT t σ Hb p) : EvT (tNot t) σ Hb (!p) := Evl.et_not h1
theorem kn_up {Hb H H1 Hb' H' : Hp} (e1 : Ex H H1) (k : Kn Hb H1 Hb' H') : Kn Hb H Hb' H' := ⟨e1.trans k.cur, k.bas, k.sub, fun a o z => (k.nw a o z).imp id fun z => none_back e1 z⟩
theorem evd_andV {p q : Bool} (h1 : EvD K ta σ Hb (.bool p)) (h2 : p = true → EvD K tb σ Hb (.bool q)) : EvD K (tAndV ta tb) σ Hb (.bool (p && q)) := fun H e Q z => h1 H e _ fun v Hb' H' k hv => by
  cases hv
  refine ⟨p, rfl, ?_⟩
  cases p with
  | true => exact h2 rfl H' (k.bas.trans k.sub) Q fun v H5 H6 k2 hv => z v H5 H6 (kn_up k.cur k2) hv
  | false => exact z _ Hb' H' k (.bl false)
theorem evd_orV {p q : Bool} (h1 : EvD K ta σ Hb (.bool p)) (h2 : p = false → EvD K tb σ Hb (.bool q)) : EvD K (tOrV ta tb) σ Hb (.bool (p || q)) := fun H e Q z => h1 H e _ fun v Hb' H' k hv => by
  cases hv
  refine ⟨p, rfl, ?_⟩
  cases p with
  | true => exact z _ Hb' H' k (.bl true)
  | false => exact h2 rfl H' (k.bas.trans k.sub) Q fun v H5 H6 k2 hv => z v H5 H6 (kn_up k.cur k2) hv
theorem evd_notV {p : Bool} (h1 : EvD K ta σ Hb (.bool p)) : EvD K (tNotV ta) σ Hb (.bool (!p)) := fun H e Q z => h1 H e _ fun v Hb' H' k hv => by
  cases hv
  exact ⟨p, rfl, z _ Hb' H' k (.bl _)⟩
theorem evd_cb {r : List V → Hp → VK → Prop} {tr : TA} (h : EvA K tr σ Hb ds) (hr : RCD K r ds c) : EvD K (tCB r tr) σ Hb c := fun H e Q q =>
  h H e _ fun vs H1 H2 k hv => hr vs H1 H2 k.sub hv Q fun v H3 H4 k2 hv2 => q v H3 H4 (k.trans k2) hv2
end

/-! ### promises over data -/
/-- given arguments that read as arg i, where ok i holds, it tells res i -/
def spD (K : PySem.W.Frag) {ι : Type} (ok : ι → Prop) (arg : ι → List PyData) (res : ι → PyData) : Sp := fun vs H Q _ =>
  ∃ (i : ι) (Hb : Hp), ok i ∧ Ex Hb H ∧ DpAll K Hb vs (arg i) ∧ ∀ v Hb' H', Kn Hb H Hb' H' → Dp K Hb' v (res i) → Q v H'
section
variable {K : PySem.W.Frag} {σ : St} {Hb : Hp} {ι : Type} {ok : ι → Prop} {arg : ι → List PyData} {res : ι → PyData}
theorem evd_call {E : XK} {tr : TA} {ds : List PyData} (h : EvA K tr σ Hb ds) (i : ι) (ho : ok i) (ea : ds = arg i) : EvD K (tCall (spD K ok arg res) [] E tr) σ Hb (res i) := fun H e Q q =>
  h H e _ fun vs H1 H2 k hv => ⟨i, H1, ho, k.sub, by rw [List.append_nil, ← ea]; exact hv, fun v H3 H4 k2 hv2 => q v H3 H4 (k.trans k2) hv2⟩
theorem spD_len {n : Nat} (h : ∀ i, (arg i).length = n) : ∀ vs H Q E, spD K ok arg res vs H Q E → vs.length = n := fun vs H Q E ⟨i, Hb, _, _, hv, _⟩ => by rw [dpAll_len hv]; exact h i
end

/-! ### statements -/
section
variable {K : PySem.W.Frag} {σ : St} {Hb H : Hp} {te : TE} {t : TT} {D : Ends} {d : PyData} {tu tw : TS}
theorem sd_ret (h : EvD K te σ Hb d) (e : Ex Hb H) (k : ∀ v Hb' H', Kn Hb H Hb' H' → Dp K Hb' v d → D.rt v H') : tRet te D σ H := h H e _ k
theorem sd_set {i : Nat} (h : EvD K te σ Hb d) (e : Ex Hb H) (k : ∀ v Hb' H', Kn Hb H Hb' H' → Dp K Hb' v d → D.nx (σ.set i (some v)) H') : tAsg te (gName i) D σ H := h H e _ k
theorem sd_setN {i : Nat} {ds : List PyData} (h : EvN K te σ Hb ds) (e : Ex Hb H) (k : ∀ p xs Hb' H', Kn Hb H Hb' H' → H p = none → Hb' p = none → H' p = some (.lst xs) → DpAll K Hb' xs ds → D.nx (σ.set i (some (.ref p))) H') : tAsg te (gName i) D σ H := h H e _ k
theorem sd_if {b : Bool} (h : EvT t σ Hb b) (e : Ex Hb H) (h1 : b = true → ∀ H', Ex H H' → tu D σ H') (h2 : b = false → ∀ H', Ex H H' → tw D σ H') : tIfS t tu tw D σ H := h H e _ fun H' e' => by
  cases b with
  | true => exact h1 rfl H' e'
  | false => exact h2 rfl H' e'
end
end Jt

set_option Elab.async false
set_option linter.all false
set_option maxRecDepth 100000
set_option maxHeartbeats 4000000
/-! What is walked, as data; comprehensions and for loops over it. -/
namespace Jt
open PySem PySem.Spec PyProof.Rows L2

section
variable {K : PySem.W.Frag} {H : Hp}
theorem dpAll_get : ∀ {vs : List V} {ds : List PyData} {i : Nat} {v : V}, DpAll K H vs ds → vs[i]? = some v → ∃ d, ds[i]? = some d ∧ Dp K H v d
  | _, _, _, _, .nil, e => by simp at e
  | _, _, 0, _, .cons r _, e => by
    simp at e; subst e; exact ⟨_, rfl, r⟩
  | _, _, i + 1, v, .cons _ t, e => by
    obtain ⟨d, h1, h2⟩ := dpAll_get (i := i) (v := v) t (by simpa using e)
    exact ⟨d, by simpa using h1, h2⟩
theorem dpAll_get' : ∀ {vs : List V} {ds : List PyData} {i : Nat} {d : PyData}, DpAll K H vs ds → ds[i]? = some d → ∃ v, vs[i]? = some v ∧ Dp K H v d
  | _, _, _, _, .nil, e => by simp at e
  | _, _, 0, _, .cons r _, e => by
    simp at e; subst e; exact ⟨_, rfl, r⟩
  | _, _, i + 1, d, .cons _ t, e => by
    obtain ⟨v, h1, h2⟩ := dpAll_get' (i := i) (d := d) t (by simpa using e)
    exact ⟨v, by simpa using h1, h2⟩
theorem dpAll_app : ∀ {vs ws : List V} {ds es : List PyData}, DpAll K H vs ds → DpAll K H ws es → DpAll K H (vs ++ ws) (ds ++ es)
  | _, _, _, _, .nil, h => h
  | _, _, _, _, .cons r t, h => .cons r (dpAll_app t h)
theorem dpAll_one {v : V} {d : PyData} (h : Dp K H v d) : DpAll K H [v] [d] := .cons h .nil
end

/-- the iterator J yields xs, one after the other, in every heap that grows from Hb -/
def Goes (J : It) (xs : List V) (Hb : Hp) : Prop := ∀ i H, Ex Hb H → (i < xs.length → J.go i H) ∧ (xs.length ≤ i → J.stop i H) ∧ ∀ x H', J.yld i H x H' → i < xs.length → H' = H ∧ xs[i]? = some x
theorem Goes.mono {J : It} {xs : List V} {Hb Hc : Hp} (g : Goes J xs Hb) (e : Ex Hb Hc) : Goes J xs Hc := fun i H f => g i H (e.trans f)
/-- what is walked reads as ds -/
def WaD (K : PySem.W.Frag) (wi : TI) (σ : St) (Hb : Hp) (ds : List PyData) : Prop := ∀ H, Ex Hb H → ∀ R : It → Hp → Prop, (∀ J xs Hb' H', Kn Hb H Hb' H' → DpAll K Hb' xs ds → Goes J xs Hb' → R J H') → wi σ H R
section
variable {K : PySem.W.Frag} {σ : St} {Hb Hc : Hp} {te tl : TE} {tt : TT} {wi : TI} {ds : List PyData}
theorem WaD.mono (h : WaD K wi σ Hb ds) (e : Ex Hb Hc) : WaD K wi σ Hc ds := fun H f R q => h H (e.trans f) R fun J xs Hb' H' k hx g => by
  obtain ⟨k1, k2⟩ := k.up e f
  exact q J xs _ H' k1 (dpAll_mono k2 ds xs hx) (g.mono k2)
theorem wad_list (h : EvD K tl σ Hb (.list ds)) : WaD K (iList K tl) σ Hb ds := fun H e R q => h H e _ fun v Hb' H' k hv => by
  cases hv with
  | @lst a xs _ hs ha =>
    refine ⟨a, rfl, ⟨xs, Evl.ex_l k.sub hs⟩, q _ xs Hb' H' k ha fun i H2 f => ?_⟩
    have s2 := Evl.ex_l f hs
    refine ⟨fun hi => ⟨xs, xs[i], s2, List.getElem?_eq_getElem hi⟩, fun hi => ⟨xs, s2, hi⟩, fun x H3 y _ => ?_⟩
    exact ⟨y.1, y.2 xs s2⟩
theorem wad_tup (h : EvD K tl σ Hb (.tuple ds)) : WaD K (iTup K tl) σ Hb ds := fun H e R q => h H e _ fun v Hb' H' k hv => by
  cases hv with
  | @tup a xs _ hs0 ha =>
    have hs : SqT K Hb' a xs := SqT.of hs0
    refine ⟨a, rfl, ⟨xs, Evl.ex_t k.sub hs⟩, q _ xs Hb' H' k ha fun i H2 f => ?_⟩
    have s2 := Evl.ex_t f hs
    refine ⟨fun hi => ⟨xs, xs[i], s2, List.getElem?_eq_getElem hi⟩, fun hi => ⟨xs, s2, hi⟩, fun x H3 y _ => ?_⟩
    exact ⟨y.1, y.2 xs s2⟩
def signs (x : Str) : List PyData := x.cps.toList.map fun c => .str ⟨#[c]⟩
theorem dpAll_signs {H : Hp} : ∀ cs : List Nat, DpAll K H (cs.map fun c => V.str ⟨#[c]⟩) (cs.map fun c => PyData.str ⟨#[c]⟩)
  | [] => .nil
  | c :: cs => .cons (.str _) (dpAll_signs cs)
theorem wad_str {x : Str} (h : EvD K tl σ Hb (.str x)) : WaD K (iStr tl) σ Hb (signs x) := fun H e R q => h H e _ fun v Hb' H' k hv => by
  cases hv
  refine ⟨x, rfl, q _ (x.cps.toList.map fun c => V.str ⟨#[c]⟩) Hb' H' k (dpAll_signs _) fun i H2 f => ?_⟩
  rw [List.length_map, Array.length_toList]
  refine ⟨fun hi => hi, fun hi => hi, fun y H3 z hi => ?_⟩
  obtain ⟨e1, c, hc, e2⟩ := z
  refine ⟨e1, ?_⟩
  rw [List.getElem?_map, Array.getElem?_toList, hc, e2]
  rfl
def intsFrom (lo : Int) (n : Nat) : List PyData := (List.range n).map fun (i : Nat) => .int (lo + (i : Int))
theorem dpAll_ints {H : Hp} (lo : Int) : ∀ l : List Nat, DpAll K H (l.map fun (i : Nat) => V.int (lo + (i : Int))) (l.map fun (i : Nat) => PyData.int (lo + (i : Int)))
  | [] => .nil
  | i :: l => .cons (.int _) (dpAll_ints lo l)
theorem goes_itr {H : Hp} (lo : Int) (n : Nat) : Goes (Itr lo n) ((List.range n).map fun (i : Nat) => V.int (lo + (i : Int))) H := fun i H2 f => by
  rw [List.length_map, List.length_range]
  refine ⟨fun hi => hi, fun hi => hi, fun y H3 z hi => ?_⟩
  obtain ⟨e1, e2⟩ := z
  refine ⟨e1, ?_⟩
  rw [List.getElem?_map, List.getElem?_range hi, e2]
  rfl
theorem wad_rng2 {ta : TA} {lo hi : Int} (h : EvA K ta σ Hb [.int lo, .int hi]) (b : -1000000 ≤ lo ∧ lo ≤ 1000000 ∧ -1000000 ≤ hi ∧ hi ≤ 1000000) : WaD K (iRng2 ta) σ Hb (intsFrom lo (hi - lo).toNat) := fun H e R q => h H e _ fun vs Hb' H' k hv => by
  cases hv with
  | cons h1 t1 => cases t1 with
    | cons h2 t2 =>
      cases t2; cases h1; cases h2
      exact ⟨lo, hi, rfl, ⟨by omega, by omega, by omega, by omega⟩, q _ _ Hb' H' k (dpAll_ints lo _) (goes_itr lo _)⟩
theorem wad_rng1 {ta : TA} {hi : Int} (h : EvA K ta σ Hb [.int hi]) (b : -1000000 ≤ hi ∧ hi ≤ 1000000) : WaD K (iRng1 ta) σ Hb (intsFrom 0 hi.toNat) := fun H e R q => h H e _ fun vs Hb' H' k hv => by
  cases hv with
  | cons h1 t1 =>
    cases t1; cases h1
    exact ⟨hi, rfl, by omega, by omega, q _ _ Hb' H' k (dpAll_ints 0 _) (goes_itr 0 _)⟩

/-! ### comprehensions -/
/-- the word of a comprehension's turn: the new list at D, not among what is read -/
def Cw (K : PySem.W.Frag) (H1 H2 : Hp) (D : Addr) (H' : Hp) (es : List PyData) : Prop := ∃ Hc acc, Kn H1 H2 Hc H' ∧ Hc D = none ∧ H' D = some (.lst acc) ∧ DpAll K Hc acc es
theorem Cw.start {H1 H2 : Hp} {D : Addr} (e : Ex H1 H2) (hD : H2 D = none) : Cw K H1 H2 D (upd H2 D (.lst [])) [] := ⟨H1, [], Kn.mut e hD, none_back e hD, upd_same, .nil⟩
theorem Cw.push {H1 H2 Hc H3 Hd H4 : Hp} {D : Addr} {acc : List V} {es : List PyData} {y : V} {d : PyData} (hD : H2 D = none) (k : Kn H1 H2 Hc H3) (n : Hc D = none) (hd : H3 D = some (.lst acc)) (ha : DpAll K Hc acc es) (k2 : Kn Hc H3 Hd H4) (hy : Dp K Hd y d) :
    H4 D = some (.lst acc) ∧ Cw K H1 H2 D (upd H4 D (.lst (acc ++ [y]))) (es ++ [d]) := by
  obtain ⟨n2, c2⟩ := k2.hid n hd
  have k3 := k.trans k2
  exact ⟨c2, Hd, acc ++ [y], ⟨Evl.Ex.mut k3.cur hD, k3.bas, ex_hid k3.sub n2, k3.nw⟩, n2, upd_same, dpAll_app (dpAll_mono k2.bas _ _ ha) (dpAll_one hy)⟩
theorem take_map_next {α β : Type} {l : List α} {i : Nat} {x : α} (f : α → Bool) (g : α → β) (h : l[i]? = some x) : ((l.take (i + 1)).filter f).map g = ((l.take i).filter f).map g ++ if f x = true then [g x] else [] := by
  rw [List.take_add_one, h]
  simp only [Option.toList_some, List.filter_append, List.map_append]
  congr 1
  by_cases c : f x = true
  · simp [c]
  · simp [c]
theorem len_le_of {α β : Type} {l : List α} (f : α → Bool) (g : α → β) (i : Nat) : (((l.take i).filter f).map g).length ≤ i := by
  rw [List.length_map]
  have h1 := List.length_filter_le f (l.take i)
  have h2 := List.length_take_le i l
  omega
theorem dpAll_getB {β : Type} {H : Hp} {bs : List β} {enc : β → PyData} {vs : List V} {i : Nat} {v : V} (h : DpAll K H vs (bs.map enc)) (e : vs[i]? = some v) : ∃ b, bs[i]? = some b ∧ Dp K H v (enc b) := by
  obtain ⟨d, h1, h2⟩ := dpAll_get h e
  rw [List.getElem?_map] at h1
  cases q : bs[i]? with
  | none => rw [q] at h1; cases h1
  | some b => rw [q] at h1; cases h1; exact ⟨b, rfl, h2⟩
/-- [elt for x in ds if test] -/
theorem evb_lc {β : Type} {bs : List β} {enc : β → PyData} {vs : List Nat} {j : Nat} (f : β → Bool) (g : β → PyData) (h : WaD K wi σ Hb (bs.map enc)) (hz : bs.length ≤ 40000) (hw : ∀ x, wipe ((wipe σ vs).set j (some x)) vs = wipe σ vs)
    (ht : ∀ d, d ∈ bs → ∀ v Hc, Ex Hb Hc → Dp K Hc v (enc d) → EvT tt ((wipe σ vs).set j (some v)) Hc (f d))
    (he : ∀ d, d ∈ bs → f d = true → ∀ v Hc, Ex Hb Hc → Dp K Hc v (enc d) → EvD K te ((wipe σ vs).set j (some v)) Hc (g d)) : EvN K (tLc wi (gName j) tt te vs) σ Hb ((bs.filter f).map g) := fun H e Q q => h H e _ fun J xs H1 H2 k0 hxs G D hD => by
  have hl : xs.length = bs.length := by rw [dpAll_len hxs, List.length_map]
  refine ⟨fun i m H' => m = bs.length - i ∧ i ≤ bs.length ∧ Cw K H1 H2 D H' (((bs.take i).filter f).map g), ⟨bs.length, by simp, Nat.zero_le _, Cw.start k0.sub hD⟩, ?_⟩
  rintro i m H' ⟨rfl, hi, Hc, acc, k, n, hd, ha⟩
  obtain ⟨G1, G2, G3⟩ := G i H' (k.bas.trans k.sub)
  by_cases hlt : i < bs.length
  · have hlt' : i < xs.length := by omega
    refine .inr ⟨G1 hlt', fun H' => Cw K H1 H2 D H' (((bs.take (i + 1)).filter f).map g), fun H3 p => ⟨bs.length - (i + 1), by omega, rfl, hlt, p⟩, fun x H3 y => ?_⟩
    obtain ⟨e3, hx⟩ := G3 x H3 y hlt'
    subst e3
    obtain ⟨d, hdd, hdx⟩ := dpAll_getB hxs hx
    have hm := List.mem_of_getElem? hdd
    have e1 : Ex Hb Hc := k0.bas.trans k.bas
    have dx := dp_mono k.bas _ x hdx
    refine ⟨hw x, ht d hm x Hc e1 dx _ k.sub _ fun H4 e4 => ?_⟩
    rw [take_map_next f g hdd]
    cases hf : f d with
    | true =>
      refine he d hm hf x Hc e1 dx H4 (k.sub.trans e4) _ fun y Hd H5 k5 hy => ?_
      obtain ⟨c5, w⟩ := Cw.push hD k n hd ha (kn_up e4 k5) hy
      refine ⟨acc, c5, ?_, by simpa using w⟩
      have h1 := dpAll_len ha
      have h2 := len_le_of (l := bs) f g i
      exact Evl.sz_lt (by omega)
    | false =>
      show Cw K H1 H2 D H4 _
      simp only [Bool.false_eq_true, if_false, List.append_nil]
      exact ⟨Hc, acc, ⟨k.cur.trans e4, k.bas, k.sub.trans e4, k.nw⟩, n, e4 _ _ hd, ha⟩
  · have e2 : i = bs.length := by omega
    subst e2
    refine .inl ⟨G2 (by omega), ?_⟩
    rw [List.take_length] at ha
    have kk := k0.trans k
    exact q D acc Hc H' kk (none_back k0.cur hD) n hd ha
/-- .. without a test -/
theorem evb_lc1 {β : Type} {bs : List β} {enc : β → PyData} {vs : List Nat} {j : Nat} (g : β → PyData) (h : WaD K wi σ Hb (bs.map enc)) (hz : bs.length ≤ 40000) (hw : ∀ x, wipe ((wipe σ vs).set j (some x)) vs = wipe σ vs)
    (he : ∀ d, d ∈ bs → ∀ v Hc, Ex Hb Hc → Dp K Hc v (enc d) → EvD K te ((wipe σ vs).set j (some v)) Hc (g d)) : EvN K (tLc wi (gName j) tYes te vs) σ Hb (bs.map g) := by
  have h1 := evb_lc (tt := tYes) (te := te) (fun _ => true) g h hz hw (fun d _ v Hc _ _ => fun H1 _ Q q => q H1 (Evl.Ex.refl H1)) (fun d hm _ => he d hm)
  rwa [List.filter_eq_self.mpr (fun _ _ => rfl)] at h1
theorem flatMap_take_next {α β : Type} {l : List α} {i : Nat} {x : α} (F : α → List β) (h : l[i]? = some x) : (l.take (i + 1)).flatMap F = (l.take i).flatMap F ++ F x := by
  rw [List.take_add_one, h]
  simp [List.flatMap_append]
/-- [elt for x in ds for y in F x] -/
theorem evb_lc2 {β γ : Type} {bs : List β} {enc : β → PyData} {en2 : γ → PyData} {vs vs1 : List Nat} {j j1 : Nat} {wi1 : TI} (F : β → List γ) (g : β → γ → PyData) (h : WaD K wi σ Hb (bs.map enc)) (hz : (bs.flatMap fun d => (F d).map (g d)).length ≤ 40000)
    (hw : ∀ x, wipe ((wipe σ vs).set j (some x)) vs = wipe σ vs) (hw1 : ∀ x y, wipe ((wipe ((wipe σ vs).set j (some x)) vs1).set j1 (some y)) vs1 = wipe ((wipe σ vs).set j (some x)) vs1)
    (hi : ∀ d, d ∈ bs → ∀ v Hc, Ex Hb Hc → Dp K Hc v (enc d) → WaD K wi1 ((wipe σ vs).set j (some v)) Hc ((F d).map en2))
    (he : ∀ d, d ∈ bs → ∀ c, c ∈ F d → ∀ v w Hc, Ex Hb Hc → Dp K Hc v (enc d) → Dp K Hc w (en2 c) → EvD K te ((wipe ((wipe σ vs).set j (some v)) vs1).set j1 (some w)) Hc (g d c)) :
    EvN K (tLc2 wi (gName j) tYes wi1 (gName j1) tYes te vs vs1) σ Hb (bs.flatMap fun d => (F d).map (g d)) := fun H e Q q => h H e _ fun J xs H1 H2 k0 hxs G D hD => by
  have hl : xs.length = bs.length := by rw [dpAll_len hxs, List.length_map]
  refine ⟨fun i m H' => m = bs.length - i ∧ i ≤ bs.length ∧ Cw K H1 H2 D H' ((bs.take i).flatMap fun d => (F d).map (g d)), ⟨bs.length, by simp, Nat.zero_le _, by simpa using Cw.start k0.sub hD⟩, ?_⟩
  rintro i m H' ⟨rfl, hi', Hc, acc, k, n, hd, ha⟩
  obtain ⟨G1, G2, G3⟩ := G i H' (k.bas.trans k.sub)
  by_cases hlt : i < bs.length
  · have hlt' : i < xs.length := by omega
    refine .inr ⟨G1 hlt', fun H' => Cw K H1 H2 D H' ((bs.take (i + 1)).flatMap fun d => (F d).map (g d)), fun H3 p => ⟨bs.length - (i + 1), by omega, rfl, hlt, p⟩, fun x H3 y => ?_⟩
    obtain ⟨e3, hx⟩ := G3 x H3 y hlt'
    subst e3
    obtain ⟨d, hdd, hdx⟩ := dpAll_getB hxs hx
    have hm := List.mem_of_getElem? hdd
    have e1 : Ex Hb Hc := k0.bas.trans k.bas
    have dx := dp_mono k.bas _ x hdx
    refine ⟨hw x, ?_⟩
    show wi1 _ _ _
    rw [flatMap_take_next _ hdd]
    have hbig : ((bs.take i).flatMap fun d => (F d).map (g d)).length + (F d).length ≤ 40000 := by
      have e5 : bs.flatMap (fun d => (F d).map (g d)) = ((bs.take (i + 1)).flatMap fun d => (F d).map (g d)) ++ ((bs.drop (i + 1)).flatMap fun d => (F d).map (g d)) := by
        rw [← List.flatMap_append, List.take_append_drop]
      rw [e5, flatMap_take_next _ hdd, List.length_append, List.length_append, List.length_map] at hz
      omega
    refine hi d hm x Hc e1 dx H3 k.sub _ fun J1 ys Hd H4 k4 hys G4 => ?_
    have hl1 : ys.length = (F d).length := by rw [dpAll_len hys, List.length_map]
    obtain ⟨n4, c4⟩ := k4.hid n hd
    have w4 : Cw K H1 H2 D H4 (((bs.take i).flatMap fun d => (F d).map (g d)) ++ ((F d).take 0).map (g d)) := by
      rw [List.take_zero, List.map_nil, List.append_nil]
      exact ⟨Hd, acc, k.trans k4, n4, c4, dpAll_mono k4.bas _ _ ha⟩
    refine ⟨fun jj m1 H' => m1 = (F d).length - jj ∧ jj ≤ (F d).length ∧ ∃ He acc1, Kn H1 H2 He H' ∧ Ex Hd He ∧ He D = none ∧ H' D = some (.lst acc1) ∧ DpAll K He acc1 (((bs.take i).flatMap fun d => (F d).map (g d)) ++ ((F d).take jj).map (g d)), ⟨(F d).length, by simp, Nat.zero_le _, Hd, acc, k.trans k4, Evl.Ex.refl _, n4, c4, by
      rw [List.take_zero, List.map_nil, List.append_nil]; exact dpAll_mono k4.bas _ _ ha⟩, ?_⟩
    rintro jj m1 H5 ⟨rfl, hj, He, acc1, k5, ede, n5, c5, ha5⟩
    obtain ⟨A1, A2, A3⟩ := G4 jj H5 (ede.trans k5.sub)
    by_cases hjl : jj < (F d).length
    · refine .inr ⟨A1 (by omega), fun H' => ∃ He acc1, Kn H1 H2 He H' ∧ Ex Hd He ∧ He D = none ∧ H' D = some (.lst acc1) ∧ DpAll K He acc1 (((bs.take i).flatMap fun d => (F d).map (g d)) ++ ((F d).take (jj + 1)).map (g d)), fun H6 p => ⟨(F d).length - (jj + 1), by omega, rfl, hjl, p⟩, fun y H6 z => ?_⟩
      obtain ⟨e6, hy⟩ := A3 y H6 z (by omega)
      subst e6
      obtain ⟨c, hcc, hcy⟩ := dpAll_getB hys hy
      have hmc := List.mem_of_getElem? hcc
      refine ⟨hw1 x y, ?_⟩
      show te _ _ _
      have eb : Ex Hb He := e1.trans (k4.bas.trans ede)
      refine he d hm c hmc x y He eb (dp_mono (k4.bas.trans ede) _ x dx) (dp_mono ede _ y hcy) _ k5.sub _ fun z Hf H7 k7 hz7 => ?_
      obtain ⟨c7, Hg, acc2, k8, n8, c8, ha8⟩ := Cw.push (K := K) hD k5 n5 c5 ha5 k7 hz7
      have hacc : acc1.length ≤ 40000 := by
        have h1 := dpAll_len ha5
        rw [List.length_append, List.length_map] at h1
        have h2 := List.length_take_le jj (F d)
        omega
      obtain ⟨n9, c9⟩ := k7.hid n5 c5
      refine ⟨acc1, c7, Evl.sz_lt (by omega), Hf, acc1 ++ [z], ⟨Evl.Ex.mut (k5.trans k7).cur hD, (k5.trans k7).bas, ex_hid k7.sub n9, (k5.trans k7).nw⟩, ede.trans k7.bas, n9, upd_same, ?_⟩
      rw [List.take_add_one, hcc]
      simp only [Option.toList_some, List.map_append, List.map_cons, List.map_nil, ← List.append_assoc]
      exact dpAll_app (dpAll_mono k7.bas _ _ ha5) (dpAll_one hz7)
    · have e7 : jj = (F d).length := by omega
      subst e7
      refine .inl ⟨A2 (by omega), ?_⟩
      rw [List.take_length] at ha5
      exact ⟨He, acc1, k5, n5, c5, ha5⟩
  · have e2 : i = bs.length := by omega
    subst e2
    refine .inl ⟨G2 (by omega), ?_⟩
    rw [List.take_length] at ha
    exact q D acc Hc H' (k0.trans k) (none_back k0.cur hD) n hd ha
/-- the same, over the data themselves -/
theorem evn_lc {vs : List Nat} {j : Nat} (f : PyData → Bool) (g : PyData → PyData) (h : WaD K wi σ Hb ds) (hz : ds.length ≤ 40000) (hw : ∀ x, wipe ((wipe σ vs).set j (some x)) vs = wipe σ vs)
    (ht : ∀ d, d ∈ ds → ∀ v Hc, Ex Hb Hc → Dp K Hc v d → EvT tt ((wipe σ vs).set j (some v)) Hc (f d))
    (he : ∀ d, d ∈ ds → f d = true → ∀ v Hc, Ex Hb Hc → Dp K Hc v d → EvD K te ((wipe σ vs).set j (some v)) Hc (g d)) : EvN K (tLc wi (gName j) tt te vs) σ Hb ((ds.filter f).map g) :=
  evb_lc (bs := ds) (enc := id) f g (by rw [List.map_id]; exact h) hz hw ht he
theorem evn_lc1 {vs : List Nat} {j : Nat} (g : PyData → PyData) (h : WaD K wi σ Hb ds) (hz : ds.length ≤ 40000) (hw : ∀ x, wipe ((wipe σ vs).set j (some x)) vs = wipe σ vs)
    (he : ∀ d, d ∈ ds → ∀ v Hc, Ex Hb Hc → Dp K Hc v d → EvD K te ((wipe σ vs).set j (some v)) Hc (g d)) : EvN K (tLc wi (gName j) tYes te vs) σ Hb (ds.map g) :=
  evb_lc1 (bs := ds) (enc := id) g (by rw [List.map_id]; exact h) hz hw he
end

/-! ### for -/
section
variable {K : PySem.W.Frag} {σ : St} {Hb H : Hp} {wi : TI} {g : TG} {tu : TS} {D : Ends} {ds : List PyData}
/-- a for over data; W by the turn, the slots, what may be read and the heap -/
theorem sd_for (h : WaD K wi σ Hb ds) (e : Ex Hb H) (W : Nat → St → Hp → Hp → Prop) (h0 : ∀ Hb' H', Kn Hb H Hb' H' → W 0 σ Hb' H') (hx : ∀ i σ' Hc H', W i σ' Hc H' → Ex Hc H')
    (hs : ∀ i d v σ' Hc H', ds[i]? = some d → W i σ' Hc H' → Dp K Hc v d → g v σ' H' fun σ2 H2 => tu { D with nx := fun σ3 H3 => ∃ Hd, Ex Hc Hd ∧ W (i + 1) σ3 Hd H3, ct := fun σ3 H3 => ∃ Hd, Ex Hc Hd ∧ W (i + 1) σ3 Hd H3, bk := D.nx } σ2 H2)
    (hd : ∀ σ' Hc H', W ds.length σ' Hc H' → D.nx σ' H') : tFor wi g tu D σ H := h H e _ fun J xs H1 H2 k0 hxs G => by
  have hl := dpAll_len hxs
  refine ⟨fun i m σ' H' => m = ds.length - i ∧ i ≤ ds.length ∧ ∃ Hc, Ex H1 Hc ∧ W i σ' Hc H', ⟨ds.length, by simp, Nat.zero_le _, H1, Evl.Ex.refl _, h0 H1 H2 k0⟩, ?_⟩
  rintro i m σ' H' ⟨rfl, hi, Hc, e1, w⟩
  obtain ⟨G1, G2, G3⟩ := G i H' (e1.trans (hx _ _ _ _ w))
  by_cases hlt : i < ds.length
  · refine .inr ⟨G1 (by omega), fun σ3 H3 => ∃ Hd, Ex Hc Hd ∧ W (i + 1) σ3 Hd H3, fun σ3 H3 ⟨Hd, e3, p⟩ => ⟨ds.length - (i + 1), by omega, rfl, hlt, Hd, e1.trans e3, p⟩, fun x H3 y => ?_⟩
    obtain ⟨e3, hxx⟩ := G3 x H3 y (by omega)
    subst e3
    obtain ⟨d, hdd, hdx⟩ := dpAll_get hxs hxx
    exact hs i d x σ' Hc _ hdd w (dp_mono e1 d x hdx)
  · have e2 : i = ds.length := by omega
    subst e2
    exact .inl ⟨G2 (by omega), hd σ' Hc H' w⟩
end
end Jt

set_option Elab.async false
set_option linter.all false
set_option maxRecDepth 100000
set_option maxHeartbeats 4000000
/-! Operators and calls of built-ins, by data. -/
namespace Jt
open PySem PySem.Spec PyProof.Rows L2

section
variable {K : PySem.W.Frag} {H Hb : Hp} {a b c d : PyData} {ds es : List PyData}
theorem rd_eqD (h1 : SeqAt.shaped a = true) (h2 : SeqAt.shaped b = true) (n1 : nd a = true) (n2 : nd b = true) : RD K (rEqD K) a b (.bool (PyData.eqv a b)) := fun x y Hb H e hx hy Q q =>
  ⟨a, b, dp_l2 a x n1 (dp_mono e a x hx), dp_l2 b y n2 (dp_mono e b y hy), h1, h2, q _ Hb H (Kn.refl e) (.bl _)⟩
theorem rd_neD (h1 : SeqAt.shaped a = true) (h2 : SeqAt.shaped b = true) (n1 : nd a = true) (n2 : nd b = true) : RD K (rNeD K) a b (.bool (!PyData.eqv a b)) := fun x y Hb H e hx hy Q q =>
  ⟨a, b, dp_l2 a x n1 (dp_mono e a x hx), dp_l2 b y n2 (dp_mono e b y hy), h1, h2, q _ Hb H (Kn.refl e) (.bl _)⟩
def isNone : PyData → Bool
  | .none => true
  | _ => false
theorem isNone_v {v : V} (h : Dp K H v d) : decide (v = .non) = isNone d := by
  cases h <;> rfl
theorem rd_isN : RD K (fun x y H Q => y = .non ∧ Q (.bl (decide (x = .non))) H) a .none (.bool (isNone a)) := fun x y Hb H e hx hy Q q => by
  cases hy
  refine ⟨rfl, ?_⟩
  rw [isNone_v hx]
  exact q _ Hb H (Kn.refl e) (.bl _)
theorem rd_notN : RD K (fun x y H Q => y = .non ∧ Q (.bl (!decide (x = .non))) H) a .none (.bool (!isNone a)) := fun x y Hb H e hx hy Q q => by
  cases hy
  refine ⟨rfl, ?_⟩
  rw [isNone_v hx]
  exact q _ Hb H (Kn.refl e) (.bl _)
theorem rd_I0 {g : Int → Int → V} {i j : Int} (h : ∀ H, Dp K H (g i j) c) : RD K (rI0 g) (.int i) (.int j) c := fun x y Hb H e hx hy Q q => by
  cases hx; cases hy
  exact ⟨i, j, rfl, rfl, q _ Hb H (Kn.refl e) (h _)⟩
theorem rd_I {C : Int → Int → Prop} {g : Int → Int → V} {i j : Int} (hc : C i j) (h : ∀ H, Dp K H (g i j) c) : RD K (rI C g) (.int i) (.int j) c := fun x y Hb H e hx hy Q q => by
  cases hx; cases hy
  exact ⟨i, j, rfl, rfl, hc, q _ Hb H (Kn.refl e) (h _)⟩
theorem rd_add {i j : Int} : RD K (rI0 fun i j => .int (i + j)) (.int i) (.int j) (.int (i + j)) := rd_I0 fun _ => .int _
theorem rd_sub {i j : Int} : RD K (rI0 fun i j => .int (i - j)) (.int i) (.int j) (.int (i - j)) := rd_I0 fun _ => .int _
theorem rd_lt {i j : Int} : RD K (rI0 fun i j => .bl (decide (i < j))) (.int i) (.int j) (.bool (decide (i < j))) := rd_I0 fun _ => .bl _
theorem rd_le {i j : Int} : RD K (rI0 fun i j => .bl (decide (i ≤ j))) (.int i) (.int j) (.bool (decide (i ≤ j))) := rd_I0 fun _ => .bl _
theorem rd_gt {i j : Int} : RD K (rI0 fun i j => .bl (decide (j < i))) (.int i) (.int j) (.bool (decide (j < i))) := rd_I0 fun _ => .bl _
theorem rd_ge {i j : Int} : RD K (rI0 fun i j => .bl (decide (j ≤ i))) (.int i) (.int j) (.bool (decide (j ≤ i))) := rd_I0 fun _ => .bl _
theorem rd_eqI {i j : Int} : RD K rEq (.int i) (.int j) (.bool (decide (i = j))) := fun x y Hb H e hx hy Q q => by
  cases hx; cases hy
  refine ⟨rfl, ?_⟩
  have e1 : decide (V.int i = V.int j) = decide (i = j) := by simp
  rw [e1]
  exact q _ Hb H (Kn.refl e) (.bl _)
theorem rd_neI {i j : Int} : RD K rNe (.int i) (.int j) (.bool (!decide (i = j))) := fun x y Hb H e hx hy Q q => by
  cases hx; cases hy
  refine ⟨rfl, ?_⟩
  have e1 : decide (V.int i = V.int j) = decide (i = j) := by simp
  rw [e1]
  exact q _ Hb H (Kn.refl e) (.bl _)
theorem rd_eqS {i j : Str} : RD K rEq (.str i) (.str j) (.bool (decide (i = j))) := fun x y Hb H e hx hy Q q => by
  cases hx; cases hy
  refine ⟨rfl, ?_⟩
  have e1 : decide (V.str i = V.str j) = decide (i = j) := by simp
  rw [e1]
  exact q _ Hb H (Kn.refl e) (.bl _)
theorem rd_ltS {i j : Str} : RD K (fun x y H Q => ∃ i j, x = .str i ∧ y = .str j ∧ Q (.bl (decide (i.cps.toList < j.cps.toList))) H) (.str i) (.str j) (.bool (decide (i.cps.toList < j.cps.toList))) := fun x y Hb H e hx hy Q q => by
  cases hx; cases hy
  exact ⟨i, j, rfl, rfl, q _ Hb H (Kn.refl e) (.bl _)⟩
theorem rd_inSign {cc : Nat} {z : Str} : RD K (fun x y H Q => ∃ (c : Nat) (z : Str), x = .str ⟨#[c]⟩ ∧ y = .str z ∧ Q (.bl (decide (c ∈ z.cps.toList))) H) (.str ⟨#[cc]⟩) (.str z) (.bool (decide (cc ∈ z.cps.toList))) := fun x y Hb H e hx hy Q q => by
  cases hx; cases hy
  exact ⟨cc, z, rfl, rfl, q _ Hb H (Kn.refl e) (.bl _)⟩
theorem rd_addS {i j : Str} (h : i.length + j.length ≤ 100000) : RD K (fun x y H Q => ∃ i j, x = .str i ∧ y = .str j ∧ i.length + j.length ≤ sizeLine ∧ Q (.str (i ++ j)) H) (.str i) (.str j) (.str (i ++ j)) := fun x y Hb H e hx hy Q q => by
  cases hx; cases hy
  exact ⟨i, j, rfl, rfl, Evl.sz_of h, q _ Hb H (Kn.refl e) (.str _)⟩
/-! texts in a list or a tuple -/
abbrev sts (ss : List Str) : List PyData := ss.map .str
theorem dpAll_strs : ∀ {ss : List Str} {xs : List V}, DpAll K H xs (sts ss) → xs = ss.map V.str
  | [], _, h => by cases h; rfl
  | s :: ss, _, h => by
    cases h with
    | cons h1 h2 => cases h1; rw [dpAll_strs h2]; rfl
theorem dpAll_ofStrs : ∀ ss : List Str, DpAll K H (ss.map V.str) (sts ss)
  | [] => .nil
  | s :: ss => .cons (.str s) (dpAll_ofStrs ss)
theorem inV_strs (x : Str) : ∀ ss : List Str, inV (.str x) (ss.map V.str) = decide (x ∈ ss)
  | [] => by simp [inV]
  | s :: ss => by
    have ih := inV_strs x ss
    unfold inV at ih ⊢
    rw [List.map_cons, List.any_cons, ih]
    have e : eqV (.str s) (.str x) = (s == x) := rfl
    rw [e]
    by_cases h : s = x
    · subst h; simp
    · have h2 : ¬ x = s := fun z => h z.symm
      have h3 : (s == x) = false := by simpa using h
      rw [h3]
      simp [h2]
theorem flat_strs2 (ss : List Str) : (ss.map V.str).all flatV = true := by
  induction ss with
  | nil => rfl
  | cons s ss ih => exact ih
theorem seq_of {v : V} {ss : List Str} (h : Dp K H v (.list (sts ss)) ∨ Dp K H v (.tuple (sts ss))) : ∃ p, v = .ref p ∧ (SqL K H p (ss.map V.str) ∨ SqT K H p (ss.map V.str)) := by
  rcases h with h | h
  · cases h with
    | lst hs ha => exact ⟨_, rfl, .inl (by rw [← dpAll_strs ha]; exact hs)⟩
  · cases h with
    | tup hs ha => exact ⟨_, rfl, .inr (by rw [← dpAll_strs ha]; exact SqT.of hs)⟩
theorem rd_inL {x : Str} {ss : List Str} (hb : b = .list (sts ss) ∨ b = .tuple (sts ss)) : RD K (rIn K false) (.str x) b (.bool (decide (x ∈ ss))) := fun u y Hb H e hx hy Q q => by
  cases hx
  obtain ⟨p, rfl, hs⟩ := seq_of (K := K) (H := H) (v := y) (ss := ss) (hb.elim (fun z => .inl (by rw [← z]; exact dp_mono e b y hy)) fun z => .inr (by rw [← z]; exact dp_mono e b y hy))
  refine ⟨p, _, rfl, hs, rfl, flat_strs2 ss, ?_⟩
  rw [inV_strs]
  exact q _ Hb H (Kn.refl e) (.bl _)
theorem rd_notInL {x : Str} {ss : List Str} (hb : b = .list (sts ss) ∨ b = .tuple (sts ss)) : RD K (rIn K true) (.str x) b (.bool (!decide (x ∈ ss))) := fun u y Hb H e hx hy Q q => by
  cases hx
  obtain ⟨p, rfl, hs⟩ := seq_of (K := K) (H := H) (v := y) (ss := ss) (hb.elim (fun z => .inl (by rw [← z]; exact dp_mono e b y hy)) fun z => .inr (by rw [← z]; exact dp_mono e b y hy))
  refine ⟨p, _, rfl, hs, rfl, flat_strs2 ss, ?_⟩
  rw [inV_strs]
  exact q _ Hb H (Kn.refl e) (.bl _)
/-! subscripts, sums of sequences -/
theorem atI_dp {xs : List V} {i : Int} (ha : DpAll K H xs ds) (h : atI ds i = some d) : ∃ v, atI xs i = some v ∧ Dp K H v d := by
  unfold atI at h ⊢
  rw [dpAll_len ha]
  cases q : ixN ds.length i with
  | none => rw [q] at h; cases h
  | some j =>
    rw [q] at h
    obtain ⟨v, h1, h2⟩ := dpAll_get' ha (show ds[j]? = some d from h)
    exact ⟨v, h1, h2⟩
theorem rd_ixT {i : Int} (h : atI ds i = some d) : RD K (rIxT K) (.tuple ds) (.int i) d := fun x y Hb H e hx hy Q q => by
  cases hy
  cases hx with
  | tup hs ha =>
    obtain ⟨v, h1, h2⟩ := atI_dp ha h
    exact ⟨_, _, i, v, rfl, rfl, SqT.of (e _ _ hs), h1, q v Hb H (Kn.refl e) h2⟩
theorem rd_ixL {i : Int} (h : atI ds i = some d) : RD K (rIxL K) (.list ds) (.int i) d := fun x y Hb H e hx hy Q q => by
  cases hy
  cases hx with
  | lst hs ha =>
    obtain ⟨v, h1, h2⟩ := atI_dp ha h
    exact ⟨_, _, i, v, rfl, rfl, Evl.ex_l e hs, h1, q v Hb H (Kn.refl e) h2⟩
theorem rd_catA (hz : ds.length + es.length ≤ 100000) : RD K (rCatA K) (.tuple ds) (.tuple es) (.tuple (ds ++ es)) := fun x y Hb H e hx hy Q q => by
  cases hx with
  | @tup p xs _ hs ha =>
    cases hy with
    | @tup p2 ys _ ht hb =>
      have l1 := dpAll_len ha
      have l2 := dpAll_len hb
      refine ⟨_, _, xs, ys, rfl, rfl, SqT.of (e _ _ hs), SqT.of (e _ _ ht), Evl.sz_of (by omega), fun h => ?_, fun h1 h2 => ?_, fun h1 h2 p hp => ?_⟩
      · subst h
        cases ha
        exact q _ Hb H (Kn.refl e) (.tup ht hb)
      · subst h2
        cases hb
        rw [List.append_nil] at q
        exact q _ Hb H (Kn.refl e) (.tup hs ha)
      · have ex := Evl.Ex.new (o := .tup (xs ++ ys)) (none_back e hp)
        exact q _ _ _ (Kn.new e hp) (.tup upd_same (dpAll_app (dpAll_mono ex _ _ ha) (dpAll_mono ex _ _ hb)))
theorem evn_cat {ta tb : TE} {σ : St} (ha : EvN K ta σ Hb ds) (hb : EvN K tb σ Hb es) (hz : ds.length + es.length ≤ 100000) : EvN K (tOp rCat ta tb) σ Hb (ds ++ es) := fun H e Q q =>
  ha H e _ fun p xs H1 H2 k1 n1 m1 c1 a1 => hb.mono k1.bas H2 k1.sub _ fun p2 ys H3 H4 k2 n2 m2 c2 a2 => by
    have l1 := dpAll_len a1
    have l2 := dpAll_len a2
    have k := k1.trans k2
    exact ⟨p, p2, xs, ys, rfl, rfl, k2.cur _ _ c1, c2, Evl.sz_of (by omega), fun p3 n3 => q p3 _ H3 _ (k.trans (Kn.mut k2.sub n3)) (none_back k.cur n3) (none_back k2.sub n3) upd_same (dpAll_app (dpAll_mono k2.bas _ _ a1) a2)⟩
/-! built-ins -/
def dlen : PyData → Option Nat
  | .str x => some x.length
  | .list xs => some xs.length
  | .tuple xs => some xs.length
  | _ => none
theorem rcd_len {n : Nat} (h : dlen d = some n) (hz : n ≤ 100000) : RCD K (fun xs H Q => ∃ x n, xs = [x] ∧ LenV K x H n ∧ Q (.int n) H) [d] (.int n) := fun xs Hb H e hx Q q => by
  cases hx with
  | @cons v _ _ _ h1 t1 =>
    cases t1
    refine ⟨v, n, rfl, ?_, q _ Hb H (Kn.refl e) (.int _)⟩
    cases h1 with
    | str x => cases h; exact ⟨Evl.sz_of hz, rfl⟩
    | lst hs ha => cases h; exact .inl ⟨_, Evl.ex_l e hs, (dpAll_len ha).symm⟩
    | tup hs ha => cases h; exact .inr ⟨_, SqT.of (e _ _ hs), (dpAll_len ha).symm⟩
    | non => cases h
    | bl => cases h
    | int => cases h
    | dct => cases h
abbrev bools (bs : List Bool) : List PyData := bs.map .bool
theorem dpAll_bools : ∀ {bs : List Bool} {xs : List V}, DpAll K H xs (bools bs) → xs = bs.map V.bl
  | [], _, h => by cases h; rfl
  | s :: ss, _, h => by
    cases h with
    | cons h1 h2 => cases h1; rw [dpAll_bools h2]; rfl
theorem rcd_all {bs : List Bool} : RCD K (rAll K) [.list (bools bs)] (.bool (bs.all id)) := fun xs Hb H e hx Q q => by
  cases hx with
  | cons h1 t1 =>
    cases t1
    cases h1 with
    | @lst p xs _ hs ha =>
      have e1 := dpAll_bools ha
      subst e1
      exact ⟨p, bs, rfl, Evl.ex_l e hs, q _ Hb H (Kn.refl e) (.bl _)⟩
theorem rcd_any {bs : List Bool} : RCD K (rAny K) [.list (bools bs)] (.bool (bs.any id)) := fun xs Hb H e hx Q q => by
  cases hx with
  | cons h1 t1 =>
    cases t1
    cases h1 with
    | @lst p xs _ hs ha =>
      have e1 := dpAll_bools ha
      subst e1
      exact ⟨p, bs, rfl, Evl.ex_l e hs, q _ Hb H (Kn.refl e) (.bl _)⟩
theorem evn_list {tr : TA} {σ : St} (h : EvA K tr σ Hb [d]) (hd : d = .list ds ∨ d = .tuple ds) : EvN K (tCB (fun xs H Q => ∃ p ys, xs = [.ref p] ∧ (SqL K H p ys ∨ SqT K H p ys) ∧ ∀ l, H l = none → Q (.ref l) (upd H l (.lst ys))) tr) σ Hb ds := fun H e Q q =>
  h H e _ fun vs H1 H2 k hv => by
    cases hv with
    | cons h1 t1 =>
      cases t1
      rcases hd with rfl | rfl
      · cases h1 with
        | @lst p ys _ hs ha => exact ⟨p, ys, rfl, .inl (Evl.ex_l k.sub hs), fun l hl => q l ys H1 _ (k.trans (Kn.mut k.sub hl)) (none_back k.cur hl) (none_back k.sub hl) upd_same ha⟩
      · cases h1 with
        | @tup p ys _ hs ha => exact ⟨p, ys, rfl, .inr (SqT.of (k.sub _ _ hs)), fun l hl => q l ys H1 _ (k.trans (Kn.mut k.sub hl)) (none_back k.cur hl) (none_back k.sub hl) upd_same ha⟩
theorem rcd_tuple : RCD K (fun xs H Q => ∃ p ys, xs = [.ref p] ∧ ((SqL K H p ys ∧ ∀ l, H l = none → Q (.ref l) (upd H l (.tup ys))) ∨ (SqT K H p ys ∧ Q (.ref p) H))) [.list ds] (.tuple ds) := fun xs Hb H e hx Q q => by
  cases hx with
  | cons h1 t1 =>
    cases t1
    cases h1 with
    | @lst p ys _ hs ha =>
      exact ⟨p, ys, rfl, .inl ⟨Evl.ex_l e hs, fun l hl => q _ _ _ (Kn.new e hl) (.tup upd_same (dpAll_mono (Evl.Ex.new (none_back e hl)) _ _ ha))⟩⟩
/-! isinstance -/
def isi (T : String) : PyData → Option Bool
  | .str _ => kitB "str" T
  | .tuple _ => kitB "tuple" T
  | _ => none
theorem tyX_tup {p : Addr} {xs : List V} (h : H p = some (.tup xs)) : TyX K H (.ref p) (.type "tuple") := .base (.tup h)
theorem rcd_isi {T : String} {r : Bool} {ta : TE} {σ : St} (ha : EvD K ta σ Hb d) (h : isi T d = some r) : EvD K (tCB (rIsi K) (tCons ta (tCons (tC (.ty T)) tNil))) σ Hb (.bool r) := fun H e Q q =>
  ha H e _ fun v H1 H2 k hv => by
    show rIsi K [v, .ty T] H2 Q
    cases hv with
    | str x => exact ⟨_, _, _, _, r, rfl, .ty T, .base (.str x), kit_ty h, q _ H1 H2 k (.bl _)⟩
    | tup hs hh => exact ⟨_, _, _, _, r, rfl, .ty T, tyX_tup (k.sub _ _ hs), kit_ty h, q _ H1 H2 k (.bl _)⟩
    | _ => cases h
/-! slices -/
def EvO (to : TO) (σ : St) (Hb : Hp) (o : Option Int) : Prop := ∀ H, Ex Hb H → ∀ Q : Option Int → Hp → Prop, (∀ H', Ex H H' → Q o H') → to σ H Q
theorem evo_none {σ : St} : EvO tNoPart σ Hb none := fun H e Q q => q H (Evl.Ex.refl _)
theorem evo_some {te : TE} {σ : St} {i : Int} (h : EvD K te σ Hb (.int i)) : EvO (tPart te) σ Hb (some i) := fun H e Q q => h H e _ fun v H1 H2 k hv => by
  cases hv
  exact ⟨i, rfl, q H2 k.cur⟩
def cutD (ds : List PyData) (lo hi : Option Int) : List PyData := (ds.drop (HT.sIx ds.length 0 lo)).take (HT.sIx ds.length ds.length hi - HT.sIx ds.length 0 lo)
theorem dpAll_drop : ∀ {xs : List V} {ds : List PyData} (n : Nat), DpAll K H xs ds → DpAll K H (xs.drop n) (ds.drop n)
  | _, _, 0, h => h
  | _, _, _ + 1, .nil => .nil
  | _, _, n + 1, .cons _ t => dpAll_drop n t
theorem dpAll_take : ∀ {xs : List V} {ds : List PyData} (n : Nat), DpAll K H xs ds → DpAll K H (xs.take n) (ds.take n)
  | _, _, 0, _ => .nil
  | _, _, _ + 1, .nil => .nil
  | _, _, n + 1, .cons r t => .cons r (dpAll_take n t)
theorem evd_slT {te : TE} {tl th : TO} {σ : St} {lo hi : Option Int} (h : EvD K te σ Hb (.tuple ds)) (hl : EvO tl σ Hb lo) (hh : EvO th σ Hb hi) : EvD K (tSl (rSlA K) te tl th) σ Hb (.tuple (cutD ds lo hi)) := fun H e Q q =>
  h H e _ fun v H1 H2 k hv => hl H2 (k.bas.trans k.sub) _ fun H3 e3 => hh H3 ((k.bas.trans k.sub).trans e3) _ fun H4 e4 => by
    cases hv with
    | @tup p xs _ hs ha =>
      have sub := k.sub.trans (e3.trans e4)
      have k4 : Kn Hb H H1 H4 := ⟨k.cur.trans (e3.trans e4), k.bas, sub, k.nw⟩
      have ln := dpAll_len ha
      refine ⟨p, xs, rfl, SqT.of (sub _ _ hs), fun hw => ?_, fun hw p2 hp2 => ?_⟩
      · have e5 : cutD ds lo hi = ds := by
          unfold cutD
          rw [ln] at hw
          rw [hw.1, hw.2]
          simp
        rw [e5] at q
        exact q _ H1 H4 k4 (.tup hs ha)
      · refine q _ _ _ (k4.trans (Kn.new sub hp2)) (.tup upd_same ?_)
        have e6 : DpAll K H1 (cutV xs lo hi) (cutD ds lo hi) := by
          unfold cutV cutD
          rw [ln]
          exact dpAll_take _ (dpAll_drop _ ha)
        exact dpAll_mono (Evl.Ex.new (none_back sub hp2)) _ _ e6
theorem evd_slS {te : TE} {tl th : TO} {σ : St} {lo hi : Option Int} {z : Str} (h : EvD K te σ Hb (.str z)) (hl : EvO tl σ Hb lo) (hh : EvO th σ Hb hi) (hz : z.length ≤ 100000) : EvD K (tSl rSlS te tl th) σ Hb (.str (cutS z lo hi)) := fun H e Q q =>
  h H e _ fun v H1 H2 k hv => hl H2 (k.bas.trans k.sub) _ fun H3 e3 => hh H3 ((k.bas.trans k.sub).trans e3) _ fun H4 e4 => by
    cases hv
    exact ⟨z, rfl, Evl.sz_of hz, q _ H1 H4 ⟨k.cur.trans (e3.trans e4), k.bas, k.sub.trans (e3.trans e4), k.nw⟩ (.str _)⟩
end
end Jt

set_option Elab.async false
set_option linter.all false
set_option maxRecDepth 100000
set_option maxHeartbeats 4000000
/-! sorted of data; sorted by a def of the text as key. -/
namespace Jt
open PySem PySem.Spec PyProof.Rows L2 PySem.W

section
variable {X : Cx} {pins : List (Addr × Obj)} {σ : L2.St} {H : Hp} {s : Shared}
/-- a value that reads as data -/
def RdV (K : PySem.W.Frag) (H : Hp) (u : Value) (d : PyData) : Prop := ∃ v, RelV v u ∧ Dp K H v d
theorem each_of {K : PySem.W.Frag} {H : Hp} : ∀ {xs : List V} {us : List Value} {ds : List PyData}, Vals xs us → DpAll K H xs ds → EachIs (RdV K H) us ds
  | _, _, _, .nil, .nil => .nil
  | _, _, _, .cons r t, .cons d e => .cons ⟨_, r, d⟩ (each_of t e)
theorem of_each {K : PySem.W.Frag} {H : Hp} : ∀ {us : List Value} {ds : List PyData}, EachIs (RdV K H) us ds → ∃ xs, Vals xs us ∧ DpAll K H xs ds
  | _, _, .nil => ⟨[], .nil, .nil⟩
  | _, _, .cons ⟨v, r, d⟩ t => by
    obtain ⟨xs, h1, h2⟩ := of_each t
    exact ⟨v :: xs, .cons r h1, .cons d h2⟩
theorem rdV_reads (I : Inv X pins σ H s) {Hb : Hp} (e : Ex Hb H) {u : Value} {d : PyData} (n : nd d = true) (h : RdV X.K Hb u d) : ∃ as, Reads s.heap u d as := by
  obtain ⟨v, r, hd⟩ := h
  exact L2.Dp.reads I d v u (dp_l2 d v n (dp_mono e d v hd)) r
/-- sorted(xs) -/
def rSortD (K : PySem.W.Frag) : List V → Hp → VK → Prop := fun vs H Q => ∃ (a : Addr) (xs : List V) (ds : List PyData) (Hb : Hp), vs = [.ref a] ∧ SqL K H a xs ∧ Ex Hb H ∧ DpAll K Hb xs ds ∧ AllAlike ds ∧ Sortable ds ∧ (∀ d ∈ ds, d.depth ≤ 50 ∧ nd d = true) ∧
  ∀ ys p, H p = none → DpAll K Hb ys (ds.mergeSort (dataLe false id)) → Q (.ref p) (upd H p (.lst ys))
theorem cr_sortD (hu : X.A.units + 64 < cLine) : CallR X (.builtin "sorted") (rSortD X.K) := by
  intro pins s σ H vs us Q I r h
  obtain ⟨a, xs, ds, Hb, rfl, hs, e, ha, hal, hk, hd, q⟩ := h
  obtain ⟨u1, rfl, r1⟩ := vals1 r
  obtain rfl : u1 = Value.ref a := r1
  obtain ⟨its, rv, hl, hz⟩ := I.list hs
  have ev := each_of rv ha
  have hdl : ds.length ≤ sizeLine := by rw [← dpAll_len ha]; exact hz
  refine sorted_data (β := PyData) (enc := id) (bs := ds) (R := RdV X.K Hb) hl.isList ev ((each_mem ev).mono fun v d hr => rdV_reads I e (hd d hr.2).2 hr.1) (by simpa using hal) (by simpa using hk) hdl (fun d hm => by have := (hd d hm).1; show _ + d.depth < _; omega) fun out hlen he => ?_
  obtain ⟨ys, v1, d1⟩ := of_each he
  obtain ⟨ep, hat⟩ := sortedAll_at s.heap its out.toArray
  have hyl : ys.length ≤ sizeLine := by rw [v1.length, hlen]; exact hdl
  exact ⟨.ref _, upd H (s.heap.objs.size + 1) (.lst ys), I.laid (t' := s.toks) (fun _ _ => sortedAll_old) (Nat.le_succ _) ⟨hyl, out, ep, v1, hat⟩, rfl, q ys _ (I.hok.fresh (Nat.le_succ _)) d1⟩
end
section
variable {K : PySem.W.Frag} {σ : L2.St} {Hb : Hp}
theorem evn_sort {tr : TA} {ds : List PyData} (h : EvA K tr σ Hb [.list ds]) (h1 : AllAlike ds) (h2 : Sortable ds) (h3 : ∀ d ∈ ds, d.depth ≤ 50 ∧ nd d = true) : EvN K (tCB (rSortD K) tr) σ Hb (ds.mergeSort (dataLe false id)) := fun H e Q q =>
  h H e _ fun vs H1 H2 k hv => by
    cases hv with
    | cons hv1 t1 =>
      cases t1
      cases hv1 with
      | @lst a xs _ hs ha =>
        exact ⟨a, xs, ds, H1, rfl, Evl.ex_l k.sub hs, k.sub, ha, h1, h2, h3, fun ys p hp hy => q p ys H1 _ (k.trans (Kn.mut k.sub hp)) (none_back k.cur hp) (none_back k.sub hp) upd_same hy⟩
/-- by an order on what the data stand for -/
theorem merge_enc {β : Type} (enc : β → PyData) (le : β → β → Bool) (bs : List β) (h : ∀ a ∈ bs, ∀ b ∈ bs, le a b = dataLe false id (enc a) (enc b)) : (bs.map enc).mergeSort (dataLe false id) = (bs.mergeSort le).map enc :=
  (sort_maps enc h).symm
end

/-! ### by a key -/
section
variable {X : Cx} {pins : List (Addr × Obj)} {σ : L2.St} {H : Hp} {s : Shared}
theorem Inv.frStk (I : Inv X pins σ H s) {b : Addr} (h1 : b ≠ X.env.locals) (h2 : b ∉ X.fs) : b ∉ frs X.stack := fun z => (List.mem_cons.mp (I.stkSub b z)).elim h1 h2
/-- the objects at a and b, ours and not tracked, have changed; a is tracked from now on -/
theorem Inv.shown {a b : Addr} {o : HO} {h' : Heap} {t' : Nat} (I : Inv X pins σ H s) (fa : FpOk X pins H a) (fb : FpOk X pins H b) (k : ∀ c u, c ≠ a → c ≠ b → s.heap.get? c = some u → h'.get? c = some u)
    (new : ObjOk X.prog X.w (upd H a o) h' a o) : Inv X pins σ (upd H a o) { s with heap := h', toks := t' } := by
  obtain ⟨a0, a1, a2, a3, a4, a5⟩ := fa
  obtain ⟨b0, b1, b2, b3, b4, b5⟩ := fb
  have ne : ∀ c u, H c = some u → c ≠ a ∧ c ≠ b := fun c u e => ⟨fun z => (by rw [z, a0] at e; cases e), fun z => (by rw [z, b0] at e; cases e)⟩
  have up : ∀ {c : Addr}, c ≠ a → upd H a o c = H c := fun h => upd_ne h
  have tr : ∀ c u, H c = some u → upd H a o c = some u := fun c u e => by rw [up (ne c u e).1]; exact e
  refine I.step (g' := s.gens) (d' := s.drawn) (ch := [a, b]) (fun c hc => ?_) (fun c u _ _ hc e _ => ?_) (fun c u _ _ hc e _ => ⟨u.slots, ?_⟩) (fun c u hc e n => ?_) (fun c u hc e => ⟨u, ?_⟩) (fun c xs e => tr c _ e) (fun c u xs e => tr c _ e)
    (fun c ps e => ⟨#[], by rw [tr c _ e]; simp⟩) (fun m hm => ?_) (fun c u e => ?_) I.bare
  · rcases List.mem_cons.mp hc with z | z
    · rw [z]; exact ⟨a3, a1, a4, a5⟩
    · rw [List.mem_singleton.mp z]; exact ⟨b3, b1, b4, b5⟩
  · exact k c u (fun z => hc (by simp [z])) (fun z => hc (by simp [z])) e
  · exact k c u (fun z => hc (by simp [z])) (fun z => hc (by simp [z])) e
  · rw [up (fun z => hc (by simp [z]))]; exact n
  · exact k c u (fun z => hc (by simp [z])) (fun z => hc (by simp [z])) e
  · obtain ⟨u, es, ep, ho, r⟩ := hm
    exact ⟨u, es, ep, k _ u (Ne.symm a1) (Ne.symm b1) ho, r⟩
  · by_cases hca : c = a
    · subst hca; rw [upd_same] at e; cases e; exact new
    · rw [up hca] at e
      refine (I.hok c u e).stay (fun d v hd q => ?_) (fun d q => tr d _ q) fun d xs q => tr d _ q
      rcases hd with z | z
      · rw [z] at q ⊢; exact k c v (ne c u e).1 (ne c u e).2 q
      · exact k d v (ne d _ z).1 (ne d _ z).2 q
/-- what a call of the key asks -/
def KeyAsk (K : PySem.W.Frag) (sp : Sp) (Hb : Hp) (d : PyData) (k : Str) : Prop := ∀ v Hc H Q, Ex Hb Hc → Ex Hc H → Dp K Hc v d → (∀ H', Ex H H' → Q (.str k) H') → sp [v] H Q E0
/-- sorted(xs, key=f), f at the address f, its promise sp -/
def rSortF (K : PySem.W.Frag) (f : Addr) (sp : Sp) : List V → List V → Hp → VK → Prop := fun vs zs H Q => ∃ (a : Addr) (xs : List V) (ds : List PyData) (kf : PyData → Str) (Hb : Hp), vs = [.ref a] ∧ zs = [.ref f] ∧ SqL K H a xs ∧ Ex Hb H ∧ DpAll K Hb xs ds ∧
  (∀ d ∈ ds, KeyAsk K sp Hb d (kf d)) ∧ ∀ ys p H', H p = none → Ex H H' → H' p = none → DpAll K Hb ys (ds.mergeSort (dataLe false fun d => .str (kf d))) → Q (.ref p) (upd H' p (.lst ys))
theorem strs_each : ∀ {us : List Value} {ks : List Str}, EachIs (fun v k => ∃ t, v = Value.str k t) us ks → ∀ (h : Heap), EachIs (fun v k => ∃ as, Reads h v k as) us (ks.map PyData.str)
  | _, _, .nil, _ => .nil
  | _, _, .cons ⟨t, e⟩ r, h => by
    subst e
    exact .cons ⟨_, Reads.str _ _⟩ (strs_each r h)
theorem each_snoc2 {α β : Type} {R : α → β → Prop} : ∀ {as : List α} {bs : List β} {a : α} {b : β}, EachIs R as bs → R a b → EachIs R (as ++ [a]) (bs ++ [b])
  | _, _, _, _, .nil, h => .cons h .nil
  | _, _, _, _, .cons r t, h => .cons r (each_snoc2 t h)
theorem cr_sortF {f : Addr} {fd : FuncData} {ps : List Str} {sp : Sp} {k : Nat} (F : FnOk X.prog X.w X.K X.mg X.base CX0 k f fd ps sp) (hr : Room (k + 2) X.A) (hb : Binds X.K fd ps []) (hu : X.A.units + 64 < cLine) :
    CallRK X (.builtin "sorted") [Str.ofString "key"] (rSortF X.K f sp) := by
  intro pins s σ H vs zs us ws Q I r rz h
  obtain ⟨a, xs, ds, kf, Hb, rfl, rfl, hs, e, ha, hask, q⟩ := h
  obtain ⟨u1, rfl, r1⟩ := vals1 r
  obtain rfl : u1 = Value.ref a := r1
  obtain ⟨u2, rfl, r2⟩ := vals1 rz
  obtain rfl : u2 = Value.ref f := r2
  obtain ⟨its, rv, hl, hz⟩ := I.list hs
  have ev := each_of rv ha
  have hil : its.length = ds.length := ev.length
  have hzi : its.length ≤ sizeLine := by rw [← rv.length]; exact hz
  show wpAny _ _ (call (.builtin "sorted") [.ref a] [(Str.ofString "key", .ref f)]) _ _ s
  refine sorted_of_sort hl.isList hzi (ksk_s1 _ _) (fun _ => ksk_l1 _ _) fun E' => ?_
  rw [ksk_t1]
  generalize hD : s.heap.objs.size + 1 = D
  have hDs : s.heap.objs.size ≤ D := by rw [← hD]; exact Nat.le_succ _
  have hnD : H D = none := I.hok.fresh hDs
  have fD : FpOk X pins H D := I.fpOk hDs hnD
  have ho : (copyHeap s.heap its).get? D = some (seqObj "list" its.toArray 0) := by rw [← hD]; exact copyHeap_at s.heap its
  have I1 : Inv X pins σ H { s with heap := copyHeap s.heap its } := I.kept (t' := s.toks) fun b o => copyHeap_old
  generalize copyHeap s.heap its = hC at ho I1
  obtain ⟨e1, ho1⟩ : ∃ e1, (hC.update D (Obj.mapSeq fun _ => (#[] : Array Value))).get? D = some (seqObj "list" #[] e1) := ⟨_, get?_update_seq ho fun _ => #[]⟩
  have I2 : Inv X pins σ H { s with heap := hC.update D (Obj.mapSeq fun _ => (#[] : Array Value)) } := by
    obtain ⟨f0, f1, f2, f3, f4, f5⟩ := fD
    exact I1.turned (t' := s.toks) (fun b o hbd eb => (Heap.get?_update_ne _ _ _ _ hbd).trans eb) f0 f1 f3 f4 f5
  unfold ksk_tree
  refine wpAny_bind (listItems_at ho rfl ?_)
  refine wpAny_bind (listUpdate_at ho rfl ?_ (by rw [List.size_toArray]; exact hzi) (Nat.zero_le _))
  refine wpAny_bind (seqEpoch_at ho1 rfl ?_)
  generalize hC.update D (Obj.mapSeq fun _ => (#[] : Array Value)) = hU at ho1 I2
  refine wpAny_bind (wpAny_newTuple ?_ (by show its.length ≤ _; exact hzi))
  have I3 : Inv X pins σ H { s with heap := hU.push { cls := .type "tuple", data := .seq its.toArray } } := I2.kept (t' := s.toks) fun b o eb => Heap.get?_push_of_some _ eb
  have ho2 : (hU.push { cls := .type "tuple", data := .seq its.toArray }).get? D = some (seqObj "list" #[] e1) := Heap.get?_push_of_some _ ho1
  refine wpAny_bind (wpAny_newList ?_ (Nat.zero_le _))
  refine wpAny_holding ?_
  show wpAny _ _ (ksk_rest D (.ref f) false its.toArray e1 (.ref (hU.push { cls := .type "tuple", data := .seq its.toArray }).objs.size)) _ _ { s with heap := (hU.push { cls := .type "tuple", data := .seq its.toArray }).push (seqObj "list" #[] 0) }
  generalize hU.push { cls := .type "tuple", data := .seq its.toArray } = hT at ho2 I3
  have nS : H hT.objs.size = none := I3.hok.fresh (Nat.le_refl _)
  have fS : FpOk X pins H hT.objs.size := I3.fpOk (Nat.le_refl _) nS
  have I4 : Inv X pins σ H { s with heap := hT.push (seqObj "list" #[] 0) } := I3.kept (t' := s.toks) fun b o eb => Heap.get?_push_of_some _ eb
  have gS : (hT.push (seqObj "list" #[] 0)).get? hT.objs.size = some (seqObj "list" #[] 0) := Heap.get?_push_size _ rfl
  have gD : (hT.push (seqObj "list" #[] 0)).get? D = some (seqObj "list" #[] e1) := Heap.get?_push_of_some _ ho2
  have hSD : hT.objs.size ≠ D := Nat.ne_of_gt (Heap.lt_size ho2)
  generalize hT.objs.size = S at nS fS gS hSD
  generalize hT.push (seqObj "list" #[] 0) = hL at I4 gS gD
  unfold ksk_rest
  refine wpAny_bind (wpAny_rule ?_)
  first
    | rw [List.forIn_toArray]
    | (rw [← Array.forIn_toList]; simp only [List.toList_toArray])
  refine wpAny_bind (ksk_fold (fun i s' => ∃ Hi kA c, Inv X pins σ Hi s' ∧ Ex H Hi ∧ FpOk X pins Hi D ∧ FpOk X pins Hi S ∧ s'.heap.get? S = some (seqObj "list" kA c) ∧ s'.heap.get? D = some (seqObj "list" #[] e1) ∧ EachIs (fun v k => ∃ t, v = Value.str k t) kA.toList ((ds.map kf).take i)) its 0 _
    ⟨H, #[], 0, I4, Evl.Ex.refl _, fD, fS, gS, gD, by rw [List.take_zero]; exact .nil⟩ ?step ?done)
  case step =>
    rintro j x s' hx ⟨Hi, kA, c, Ii, eH, fDi, fSi, gSi, gDi, hk⟩
    simp only [Nat.zero_add] at hk ⊢
    have hj : j < its.length := (List.getElem?_eq_some_iff.mp hx).1
    obtain ⟨v, hv, rvx⟩ : ∃ v, xs[j]? = some v ∧ RelV v x := by
      have hjx : j < xs.length := by rw [rv.length]; exact hj
      obtain ⟨u, hu1, hu2⟩ := rv.get (List.getElem?_eq_getElem hjx)
      rw [hx] at hu1
      cases hu1
      exact ⟨_, List.getElem?_eq_getElem hjx, hu2⟩
    obtain ⟨d, hdd, hdx⟩ := dpAll_get ha hv
    have hz2 : kA.size ≤ its.length := by
      have h1 := hk.length
      rw [Array.length_toList, List.length_take, List.length_map] at h1
      omega
    have asked : sp [v] Hi (fun u H' => u = .str (kf d) ∧ Ex Hi H') E0 := hask d (List.mem_of_getElem? hdd) v Hb Hi _ (Evl.Ex.refl _) (e.trans eH) hdx fun H' e' => ⟨rfl, e'⟩
    have room : Room k X.A.in1.in1 := (hr.in1).in1
    have env : Env0 X.prog X.w X.K X.mg X.base X.A.in1.in1 X.stack s' Hi := Ii.env0.in1.in1
    have hlen : ([x] ++ ([] : List Value)).length = ps.length := by
      have := F.len _ _ _ _ asked
      rw [← this]; rfl
    have r1 : Vals [v] [x] := .cons rvx .nil
    have run := F.run X.A.in1.in1 X.stack s' Hi ⟨[x], []⟩ [x] [v] _ E0 room env (by have := hb s' [x] Ii.kIn hlen; simpa using this) r1 asked
    refine wpAny_bind (wpAny_attempt (wpAny_mono (Q := fun u s'' => CE X.stack X.prog X.w Hi s' (fun u H' => u = .str (kf d) ∧ Ex Hi H') u s'') (E := fun _ _ => False) (wpAny_call (codeAny_mono run fun rr s'' hq => ?_)) (fun u s'' hc => ?_) fun _ _ hF => hF.elim))
    · cases rr with
      | error e => exact hq
      | ok fl =>
        cases fl with
        | ret u => exact hq
        | next => exact False.elim hq
        | brk => exact False.elim hq
        | cont => exact False.elim hq
    · obtain ⟨y, Hj, hos, hbare, un, hok, ry, rfl, eHj⟩ := id hc
      obtain ⟨t, rfl⟩ := ry
      have Ij : Inv X pins σ Hj s'' := by
        obtain ⟨hh, g2, d2, t2, os2⟩ := s''
        obtain rfl : os2 = s'.os := hos
        exact Ii.call (h' := hh) (g' := g2) (d' := d2) (t' := t2) (ch := []) un hok hbare (fun b z => absurd z (by simp))
      obtain ⟨f0, f1, f2, f3, f4, f5⟩ := id fDi
      obtain ⟨k0, k1, k2, k3, k4, k5⟩ := id fSi
      have gD2 := un.keep D _ gDi f0 (Inv.frStk Ii f1 f2) (by simp)
      have gS2 := un.keep S _ gSi k0 (Inv.frStk Ii k1 k2) (by simp)
      have nD2 := un.free D _ gDi f0 (by simp)
      have nS2 := un.free S _ gSi k0 (by simp)
      try dsimp only
      obtain ⟨c2, hc2⟩ : ∃ c2, (s''.heap.update S (Obj.mapSeq (·.push (.str (kf d) t)))).get? S = some (seqObj "list" (kA.push (.str (kf d) t)) c2) := ⟨_, get?_update_seq gS2 (·.push _)⟩
      refine wpAny_bind (listUpdate_at gS2 rfl ?_ (Nat.le_trans hz2 hzi) (Nat.le_trans (Nat.le_of_eq (Array.size_push ..)) (Nat.succ_le_succ (Nat.le_trans hz2 hzi))))
      have ek : (ds.map kf).take (j + 1) = (ds.map kf).take j ++ [kf d] := by rw [List.take_add_one, List.getElem?_map, hdd]; simp
      have Ik : Inv X pins σ Hj { s'' with heap := s''.heap.update S (Obj.mapSeq (·.push (.str (kf d) t))) } := Ij.turned (t' := s''.toks) (fun b o hbd eb => (Heap.get?_update_ne _ _ _ _ hbd).trans eb) nS2 k1 k3 k4 k5
      refine wpAny_pure ⟨rfl, Hj, kA.push (.str (kf d) t), c2, Ik, eH.trans eHj, ⟨nD2, f1, f2, f3, f4, f5⟩, ⟨nS2, k1, k2, k3, k4, k5⟩, hc2, (Heap.get?_update_ne _ _ _ _ hSD.symm).trans gD2, ?_⟩
      rw [ek, Array.toList_push]
      exact each_snoc2 hk ⟨t, rfl⟩
  case done =>
    rintro s' ⟨Hn, kA, c, In, eH, fDn, fSn, gSn, gDn, hk⟩
    have e3 : (ds.map kf).take (0 + its.length) = ds.map kf := List.take_of_length_le (by rw [List.length_map]; omega)
    rw [e3] at hk
    have hsz : kA.size = its.length := by
      have h1 := hk.length
      rw [Array.length_toList, List.length_map] at h1
      omega
    have hkr := strs_each hk s'.heap
    rw [List.map_map] at hkr
    have hkr' : EachIs (fun v k => ∃ as, Reads s'.heap v k as) kA.toList (ds.map fun d => PyData.str (kf d)) := hkr
    have hal : AllAlike (ds.map fun d => PyData.str (kf d)) := AllAlike.of fun b b' => by simp [alike]
    have hsk : Sortable (ds.map fun d => PyData.str (kf d)) := Sortable.others fun b => ⟨by simp, fun xs => by simp⟩
    try dsimp only
    refine wpAny_bind (listItems_at gSn rfl ?_)
    have kp : KeepsBut D (hideAll s'.heap [S]) s'.heap := fun b o _ eb => of_hideAll [S] eb
    refine keyH_end (κ := dataKind s'.heap (ds.map fun d => PyData.str (kf d))) kp (hideAll_none [S] (by simp)) gSn gDn hSD
      (SortsAt.data (s := s') hkr' hal hsk fun d hd => ?_) hsz hzi fun h3 tk3 c3 k3 n3 => ⟨rfl, ?_⟩
    · obtain ⟨b, _, rfl⟩ := List.mem_map.mp hd
      show X.A.units + 1 + 1 + (PyData.str (kf b)).depth < cLine
      have : (PyData.str (kf b)).depth = 0 := by simp [PyData.depth]
      omega
    · have ko : KeyedOut false (ds.map fun d => PyData.str (kf d)) its (sortVals (dataKind s'.heap (ds.map fun d => PyData.str (kf d))) false kA.toList its) := ⟨s'.heap, kA.toList, hal, rfl, hkr'⟩
      have ee := keyedOut_each (fun d => PyData.str (kf d)) ko ev
      obtain ⟨ys, v1, d1⟩ := of_each ee
      have hyl : ys.length ≤ sizeLine := by
        rw [v1.length, ee.length, List.length_mergeSort, ← hil]
        exact hzi
      have If : Inv X pins σ (upd Hn D (.lst ys)) { s' with heap := h3, toks := tk3 } := by
        refine Inv.shown In fDn fSn (fun c u hcD hcS ec => k3 c u hcD (hideAll_get [S] ec (by simpa using hcS))) ⟨hyl, _, c3, v1, n3⟩
      exact ⟨.ref D, _, If, rfl, q ys D Hn hnD eH fDn.1 d1⟩
end
end Jt

set_option Elab.async false
set_option linter.all false
set_option maxRecDepth 100000
set_option maxHeartbeats 4000000
/-! min(xs, key=len) of tuples. -/
namespace Jt
open PySem PySem.Spec PyProof.Rows L2 PySem.W

section
variable {X : Cx} {pins : List (Addr × Obj)} {σ : L2.St} {H : Hp} {s : Shared}
/-- every object but the one at L -/
def allBut (h : Heap) (L : Addr) : List (Addr × Obj) := (List.range h.objs.size).filterMap fun a => if a = L then none else (h.get? a).map fun o => (a, o)
theorem mem_allBut {h : Heap} {L a : Addr} {o : Obj} : (a, o) ∈ allBut h L ↔ a ≠ L ∧ h.get? a = some o := by
  unfold allBut
  rw [List.mem_filterMap]
  constructor
  · rintro ⟨b, _, e⟩
    by_cases hb : b = L
    · rw [if_pos hb] at e; cases e
    · rw [if_neg hb] at e
      cases q : h.get? b with
      | none => rw [q] at e; cases e
      | some u =>
        rw [q] at e
        have e2 : (b, u) = (a, o) := Option.some.inj e
        cases e2
        exact ⟨hb, q⟩
  · rintro ⟨h1, h2⟩
    exact ⟨a, List.mem_range.mpr (Heap.lt_size h2), by rw [if_neg h1, h2]; rfl⟩
theorem news_allBut {h : Heap} {L : Addr} : News (Att.noObjs h) L h (allBut h L) := fun ⟨a, o⟩ hp => by
  obtain ⟨h1, h2⟩ := mem_allBut.mp hp
  exact ⟨h2, h1, Att.noObjs_get _ _⟩
theorem kept_allBut {h h' : Heap} {L : Addr} {more : List (Addr × Obj)} (N : News (Att.noObjs h) L h' (allBut h L ++ more)) : ∀ b o, b ≠ L → h.get? b = some o → h'.get? b = some o := fun b o hb e =>
  (N (b, o) (List.mem_append_left _ (mem_allBut.mpr ⟨hb, e⟩))).1
theorem ns_same {h h' : Heap} {a : Addr} {m m' : Str → Option Value} (n : h.Ns a m) (n' : h.Ns a m') (k : h'.Ns a m) : h'.Ns a m' := by
  obtain ⟨o, es, ep, ho, hd, _, hm⟩ := n
  obtain ⟨o2, es2, ep2, ho2, hd2, _, hm2⟩ := n'
  rw [ho] at ho2
  cases ho2
  rw [hd] at hd2
  cases hd2
  have e : m = m' := funext fun x => (hm x).symm.trans (hm2 x)
  rw [← e]
  exact k
/-- all kept but the frame's own object, of which the map -/
theorem Inv.allBut {h' : Heap} {t' : Nat} {m : Str → Option Value} (I : Inv X pins σ H s) (hm : s.heap.Ns X.env.locals m) (hm' : h'.Ns X.env.locals m) (k : ∀ b o, b ≠ X.env.locals → s.heap.get? b = some o → h'.get? b = some o) : Inv X pins σ H { s with heap := h', toks := t' } := by
  have nl : ∀ b u, H b = some u → b ≠ X.env.locals := fun b u e z => by rw [z, I.free] at e; cases e
  refine I.step (g' := s.gens) (d' := s.drawn) (ch := []) (fun _ z => nomatch z) (fun b o hb _ _ e _ => k b o hb e) (fun b o hb _ _ e _ => ⟨o.slots, k b o hb e⟩) (fun _ _ _ _ n => n) (fun b o _ e => ?_) (fun _ _ e => e) (fun _ _ _ e => e)
    (fun b ps e => ⟨#[], by rw [e]; simp⟩) (fun m2 h2 => ns_same hm h2 hm') (fun b u e => ?_) I.bare
  · by_cases hb : b = X.env.locals
    · subst hb
      obtain ⟨o2, _, _, ho2, _⟩ := hm'
      exact ⟨o2, ho2⟩
    · exact ⟨o, k b o hb e⟩
  · refine (I.hok b u e).stay (fun c v hc q => k c v ?_ q) (fun _ q => q) fun _ _ q => q
    rcases hc with z | z
    · rw [z]; exact nl b u e
    · exact nl c _ z
/-- min(xs, key=len): the first of the shortest -/
def tMinL (K : PySem.W.Frag) (te : TE) : TE := fun σ H Q => te σ H fun x H1 => ∃ (a : Addr) (xs : List V) (ls : Nat → Nat), x = .ref a ∧ SqL K H1 a xs ∧ xs ≠ [] ∧ (∀ (j : Nat) (v : V), xs[j]? = some v → ∃ t ys, v = .ref t ∧ SqT K H1 t ys ∧ ys.length = ls j) ∧
  ∀ (i : Nat) (v : V), xs[i]? = some v → (∀ j, j < xs.length → ls i ≤ ls j ∧ (j < i → ls i < ls j)) → Q v H1
theorem pe_minL {e : Expr} {te : TE} {p p2 kpos pos : Pos} (hc : X.calm = true) (hg : Gl X "min") (hm : X.mg "min" = none) (hg2 : Gl X "len") (hm2 : X.mg "len" = none) (ha : PE X e te)
    (hs : starEach [e] X.env = (false, eval e X.env) :: starEach [] X.env := by rfl) : PE X (.Call (.Name "min" p) [e] [⟨some "key", .Name "len" p2, kpos⟩] pos) (tMinL X.K te) := by
  refine ⟨fun pins s σ H Q I h => ?_⟩
  refine wpAny_Call_Name_kw (ld_blt I hg hm (u := .builtin "min") (by decide +kernel) ?_)
  have pa : PA X [e] (tCons te tNil) := pa_cons ha pa_nil hs
  have h' : tCons te tNil σ H fun vs H1 => match vs with
      | [x] => ∃ (a : Addr) (xs : List V) (ls : Nat → Nat), x = .ref a ∧ SqL X.K H1 a xs ∧ xs ≠ [] ∧ (∀ (j : Nat) (v : V), xs[j]? = some v → ∃ t ys, v = .ref t ∧ SqT X.K H1 t ys ∧ ys.length = ls j) ∧
        ∀ (i : Nat) (v : V), xs[i]? = some v → (∀ j, j < xs.length → ls i ≤ ls j ∧ (j < i → ls i < ls j)) → Q v H1
      | _ => False := h
  refine PyProof.Rows.callWith_kw (thn (pa.run pos pins s σ H _ I h') fun us s1 ⟨vs, H1, I1, r1, q1⟩ => ?_) (by rw [hs]; rfl) (by rw [hs]; rfl)
  show wpAny _ _ (evalAll [(do let v ← eval (.Name "len" p2) X.env; standAt pos; pure v)]) _ _ s1
  refine wpAny_evalAll_cons (wpAny_bind (ld_blt I1 hg2 hm2 (u := .builtin "len") (by decide +kernel) (wpAny_bind (wpAny_standAt (wpAny_pure (wpAny_evalAll_nil ?_))))))
  match vs, r1, q1 with
  | [x], r1, ⟨a, xs, ls, hx, hl, hne, ht, q⟩ =>
    subst hx
    obtain ⟨u1, rfl, ru⟩ := vals1 r1
    obtain rfl : u1 = Value.ref a := ru
    obtain ⟨its, rv, pl, hz⟩ := I1.list hl
    obtain ⟨m, F0⟩ := I1.fr
    have hn := F0.ns
    have neL : ∀ {b : Addr} {o : Obj}, s1.heap.get? b = some o → (∀ es ep, o.data ≠ .dict es ep) → b ≠ X.env.locals := fun {b o} e hd z => by
      obtain ⟨o2, es, ep, ho2, hd2, _⟩ := hn
      rw [← z, e] at ho2
      cases ho2
      exact hd es ep hd2
    have hil : its.length = xs.length := rv.length.symm
    show wpAny _ _ (call (.builtin "min") [.ref a] [(Str.ofString "key", .builtin "len")]) _ _ s1
    have hlist : ∀ h, Fr (Att.noObjs s1.heap) X.env.locals h m → News (Att.noObjs s1.heap) X.env.locals h (allBut s1.heap X.env.locals) → h.IsList a its.toArray := fun hh _ N => by
      obtain ⟨o, n, ho, hcl, hdc, hd⟩ := pl
      have ne := neL ho (fun es ep z => by rw [hd] at z; cases z)
      exact ⟨o, kept_allBut (more := []) (by rw [List.append_nil]; exact N) a o ne ho, hcl, n, hd⟩
    refine kmb_min (h₀ := Att.noObjs s1.heap) (L := X.env.locals) (m := m) (news := allBut s1.heap X.env.locals) (vs := its) (fun i => ((ls i : Nat) : Int)) (I1.ok.hd hc) (Att.fr_all hn) news_allBut hlist (by rw [hil]; exact List.length_pos_iff.mpr hne) (fun i v hv hh tk own F N => ?_) (fun i v h2 tk2 hv hb F N => ?_)
    · have hi : i < xs.length := by rw [← hil]; exact (List.getElem?_eq_some_iff.mp hv).1
      obtain ⟨u, hu1, hu2⟩ := rv.get (List.getElem?_eq_getElem hi)
      rw [hv] at hu1
      cases hu1
      obtain ⟨t, ys, ey, hst, hyl⟩ := ht i _ (List.getElem?_eq_getElem hi)
      rw [ey] at hu2
      obtain rfl : v = Value.ref t := hu2
      obtain ⟨tits, rt, ⟨o, ho, hcl, n, hd⟩, htz⟩ := I1.tuple hst
      have ne := neL ho (fun es ep z => by rw [hd] at z; cases z)
      have hT : IsTup hh t tits.toArray := ⟨o, kept_allBut N t o ne ho, hcl, n, hd⟩
      have hn63 := line63
      have hsz : tits.toArray.size = ls i := by rw [List.size_toArray, ← rt.length, hyl]
      refine PyProof.Rows.len_tuple (s := { s1 with heap := hh, toks := tk }) hT (by rw [hsz, ← hyl]; omega) ?_
      rw [hsz]
      exact KskEnd.intro F N (fun p hp => hp)
    · have hi : i < xs.length := by rw [← hil]; exact (List.getElem?_eq_some_iff.mp hv).1
      obtain ⟨u, hu1, hu2⟩ := rv.get (List.getElem?_eq_getElem hi)
      rw [hv] at hu1
      cases hu1
      refine ⟨_, H1, Inv.allBut I1 hn F.ns (kept_allBut (more := []) (by rw [List.append_nil]; exact N)), hu2, q i _ (List.getElem?_eq_getElem hi) fun j hj => ?_⟩
      have h1 := hb j (by rw [hil]; exact hj)
      exact ⟨by have := h1.1; omega, fun hji => by have := h1.2 hji; omega⟩
end
end Jt

set_option Elab.async false
set_option linter.all false
set_option maxRecDepth 100000
set_option maxHeartbeats 4000000
/-! xs.remove(x), the items data. -/
namespace Jt
open PySem PySem.Spec PyProof.Rows L2 PySem.W

/-- the loop from place i on: d turns are left to the place j -/
theorem rem_loop (l : Addr) (items : Array Value) (n : Nat) (x : Value) (hs1 : items.size ≤ sizeLine) : ∀ (d i j : Nat), i + d = j → ∀ (hj : j < items.size),
    Meets (Builtin.«list.remove.loop» ⟨[.ref l, x, rawInt i], []⟩)
      (fun A R s => s.heap.get? l = some { cls := .type "list", dict := none, data := .seq items n, slots := #[] } ∧ SeqAt.EqAt A.in1 s items[j] x true ∧ (∀ m (hm : m < items.size), i ≤ m → m < j → SeqAt.EqAt A.in1 s items[m] x false) ∧
        R (.ok (.ret .none)) { s with heap := s.heap.update l (Obj.mapSeq fun xs => xs.eraseIdxIfInBounds j) })
  | 0, i, j, hd, hj => by
    intro prog w A R s h
    obtain ⟨hp, g, dr, tk, os⟩ := s
    obtain ⟨hl, hit, hno, h⟩ := h
    have e1 : i = j := by omega
    subst e1
    wp_walk using wpAny_loadPart' hl
    have hi : items[((i : Nat) : Int).toNat]? = some items[i] := by simp [hj]
    rw [hi]
    refine wpAny_bind (hit prog w _ _ ?_)
    have hz' : (items.eraseIdxIfInBounds i).size ≤ sizeLine + 1 := by
      refine Nat.le_trans ?_ (Nat.le_succ_of_le hs1)
      rw [Array.eraseIdxIfInBounds, dif_pos hj, Array.size_eraseIdx]
      omega
    wp_walk using (wpAny_updateSeq hl rfl (hz := hs1) (_hz' := hz')), wpAny_loadPart' hl
    simpa using h
  | d + 1, i, j, hd, hj => by
    intro prog w A R s h
    obtain ⟨hp, g, dr, tk, os⟩ := s
    obtain ⟨hl, hit, hno, h⟩ := h
    have hlt : i < items.size := by omega
    wp_walk using wpAny_loadPart' hl
    have hi : items[((i : Nat) : Int).toNat]? = some items[i] := by simp [hlt]
    have hc : ((i : Int) + 1) = ((i + 1 : Nat) : Int) := by push_cast; rfl
    rw [hi]
    refine wpAny_bind (hno i hlt (Nat.le_refl _) (by omega) prog w _ _ ?_)
    wp_walk
    rw [hc]
    refine ⟨plainId_quiet MeetsSeq.plain_remove_loop _, codeAny_builtin MeetsSeq.entry_remove_loop ?_⟩
    rw [Around.under_plainId MeetsSeq.plain_remove_loop _]
    exact rem_loop l items n x hs1 d (i + 1) j (by omega) hj prog w A R _ ⟨hl, hit, fun m hm h1 h2 => hno m hm (by omega) h2, h⟩
theorem rem_list (l : Addr) (items : Array Value) (n : Nat) (x : Value) (hs1 : items.size ≤ sizeLine) (j : Nat) (hj : j < items.size) :
    Meets (Builtin.«list.remove» ⟨[.ref l, x], []⟩)
      (fun A R s => s.heap.get? l = some { cls := .type "list", dict := none, data := .seq items n, slots := #[] } ∧ SeqAt.EqAt A.in1 s items[j] x true ∧ (∀ m (hm : m < items.size), m < j → SeqAt.EqAt A.in1 s items[m] x false) ∧
        R (.ok (.ret .none)) { s with heap := s.heap.update l (Obj.mapSeq fun xs => xs.eraseIdxIfInBounds j) }) := by
  intro prog w A R s h
  obtain ⟨hp, g, dr, tk, os⟩ := s
  obtain ⟨hl, hit, hno, h⟩ := h
  wp_walk using wpAny_loadPart' hl
  refine ⟨plainId_quiet MeetsSeq.plain_remove_loop _, codeAny_builtin MeetsSeq.entry_remove_loop ?_⟩
  rw [Around.under_plainId MeetsSeq.plain_remove_loop _]
  exact rem_loop l items n x hs1 j 0 j (by omega) hj prog w A R _ ⟨hl, hit, fun m hm _ h2 => hno m hm h2, h⟩
section
variable {X : Cx}
/-- l.remove(y): y equals the item at j as data, and none ahead -/
def rRemD (K : PySem.W.Frag) : V → List V → Hp → VK → Prop := fun x vs H Q => ∃ (l : Addr) (xs : List V) (y : V) (ds : List PyData) (d : PyData) (j : Nat), x = .ref l ∧ vs = [y] ∧ H l = some (.lst xs) ∧ DpAll K H xs ds ∧ Dp K H y d ∧ SeqAt.shaped d = true ∧ (∀ c ∈ ds, SeqAt.shaped c = true) ∧ nd d = true ∧ (∀ c ∈ ds, nd c = true) ∧
  (∃ c, ds[j]? = some c ∧ PyData.eqv c d = true) ∧ (∀ m c, m < j → ds[m]? = some c → PyData.eqv c d = false) ∧ Q .non (upd H l (.lst (xs.eraseIdx j)))
theorem mt_removeD (hu : X.A.units + 66 < cLine) : MtM X "list.remove" (rRemD X.K) := by
  intro pins s σ H x vs v us Q I rx rxs h
  obtain ⟨l, xs, y, ds, d, j, rfl, rfl, hH, ha, hy, sd, sc, nnd, nnc, ⟨c0, hc0, e0⟩, hno, q⟩ := h
  cases rx
  obtain ⟨u, rfl, ru⟩ := rxs.one
  obtain ⟨z, its, n, r, hl, e⟩ := I.lstM hH
  have hjx : j < its.length := by rw [← hl, dpAll_len ha]; exact (List.getElem?_eq_some_iff.mp hc0).1
  have hjl : j < its.toArray.size := by rw [List.size_toArray]; exact hjx
  obtain ⟨bs, rb⟩ := L2.Dp.reads I d y u (dp_l2 d y nnd hy) ru
  have eqs : ∀ (m : Nat) (hm : m < its.toArray.size) (A : Around) (c : PyData), A.units + 64 < cLine → ds[m]? = some c → SeqAt.EqAt A s its.toArray[m] u (PyData.eqv c d) := fun m hm A c hA hc => by
    have hmx : m < xs.length := by rw [hl]; simpa using hm
    obtain ⟨w1, hw1, hw2⟩ := r.get (List.getElem?_eq_getElem hmx)
    obtain ⟨c2, hc2, hd2⟩ := dpAll_get ha (List.getElem?_eq_getElem hmx)
    rw [hc] at hc2
    cases hc2
    obtain ⟨as, ra⟩ := L2.Dp.reads I c _ w1 (dp_l2 c _ (nnc c (List.mem_of_getElem? hc)) hd2) hw2
    have ew : its.toArray[m] = w1 := by
      have hm2 : m < its.length := by simpa using hm
      rw [List.getElem?_eq_getElem hm2] at hw1
      simpa using Option.some.inj hw1
    rw [ew]
    have s1 := sc c (List.mem_of_getElem? hc)
    exact PySem.SeqAt.eqAt_reads c d A s w1 u as bs ra rb (SeqAt.canLay_of_shaped s1) (SeqAt.canLay_of_shaped sd) (SeqAt.room_of_shaped s1 hA)
  refine call_meets PySem.F.slot_list_remove ⟨_, e, rfl⟩ PySem.F.entry_list_remove (PySem.F.args_list_remove_2 _ _) (rem_list l its.toArray n u (by rw [List.size_toArray, ← hl]; exact z) j hjl) ⟨e, ?_, ?_, ?_⟩
  · have h1 := eqs j hjl X.A.in1 c0 (by show X.A.units + 1 + 64 < cLine; omega) hc0
    rw [e0] at h1
    exact h1
  · intro m hm hmj
    have hmd : m < ds.length := by rw [← dpAll_len ha, hl]; simpa using hm
    have h1 := eqs m hm X.A.in1 _ (by show X.A.units + 1 + 64 < cLine; omega) (List.getElem?_eq_getElem hmd)
    rw [hno m _ hmj (List.getElem?_eq_getElem hmd)] at h1
    exact h1
  · have rr := r.eraseIdx j
    refine ⟨.non, _, I.lset (its' := its.eraseIdx j) (t' := s.toks) hH e ?_ rr ?_, rfl, q⟩
    · show its.toArray.eraseIdxIfInBounds j = (its.eraseIdx j).toArray
      rw [List.eraseIdxIfInBounds_toArray]
    · exact Nat.le_trans (len_erase xs j) z
end
end Jt

set_option Elab.async false
set_option linter.all false
set_option maxRecDepth 100000
set_option maxHeartbeats 4000000
/-! {k: v for x in xs}, the keys tuples of texts. -/
namespace Jt
open PySem PySem.Spec PyProof.Rows L2 PySem.W

section
variable {X : Cx} {pins : List (Addr × Obj)} {σ : L2.St} {H : Hp} {s : Shared}
/-- a store into a dict with tuple keys, made by a comprehension -/
theorem set_dT {E : Value → Shared → Prop} {D b : Addr} {kvs : List (List Key × V)} {k : List Key} {v : V} {r : Value} {Q : Unit → Shared → Prop} (hu : X.A.units + 1 < cLine) (I : Inv X pins σ H s) (hD : H D = some (.dT kvs)) (hk : H b = some (.tup (k.map kV)))
    (hz : kvs.length < sizeLine) (rv : RelV v r) (h : ∀ s', Inv X pins σ (upd H D (.dT (putK kvs k v))) s' → Q () s') : wpAny (model X.prog X.w) X.A (dictSet D (.ref b) r) Q E s := by
  obtain ⟨z, hd, xs, rel, dd⟩ := dt_of I.hok hD
  have hxl : xs.length ≤ sizeLine := by rw [← Paired.length rel]; exact z
  have hpl : (putK kvs k v).length ≤ sizeLine := by have := length_putK kvs k v; omega
  have rm : (tupleKind (mixKind X.prog X.w)).room X.A := by
    show X.A.units < cLine
    omega
  refine wpAny_dictSet_heap (hsz := hxl) rm (key_of I.hok hk) dd fun h' dd' hs => h _ ?_
  obtain ⟨q, es, ep, hq, h2, h3, h4, _, h5⟩ := dd'
  refine d_write I (by rw [hD]; exact True.intro) hs ⟨q, hq⟩ ⟨hpl, hd, _, (rel.put k hk rv).keeps fun c ys ec => ?_, q, es, ep, hq, h2, h3, h4, h5⟩
  rw [upd_ne (ne_of ec hD (fun y => nomatch y))]
  exact ec
/-- D: the new dict; W by the turn and a measure -/
def tDcT (wi : TI) (g : TG) (tk tv : TE) (vs : List Nat) : TE := fun σ H Q => wi σ H fun J H1 => ∀ D, H1 D = none → ∃ W : Nat → Nat → Hp → Prop, (∃ m, W 0 m (upd H1 D (.dT []))) ∧ ∀ i m H, W i m H →
  (J.stop i H ∧ Q (.ref D) H) ∨ (J.go i H ∧ ∃ Nx : Hp → Prop, (∀ H', Nx H' → ∃ m', m' < m ∧ W (i + 1) m' H') ∧ ∀ x H', J.yld i H x H' → g x (wipe σ vs) H' fun σ2 H2 => wipe σ2 vs = wipe σ vs ∧
    tk σ2 H2 fun y H4 => tv σ2 H4 fun z H5 => ∃ b kvs k, y = .ref b ∧ H5 b = some (.tup (k.map kV)) ∧ H5 D = some (.dT kvs) ∧ kvs.length < sizeLine ∧ Nx (upd H5 D (.dT (putK kvs k z))))
theorem pe_dcT {kx vx tg iter : Expr} {scope : Scope} {own : List (Str × Nat)} {pos : Pos} {wi : TI} {g : TG} {tk tv : TE} (hc : X.calm = true) (hu : X.A.units + 1 < cLine) (hN : X.N.Nodup) (hi : PI X tg iter wi) (ok : BlkOk X.N X.env.scope scope own)
    (hg : ∀ (s : Shared) (H : Hp) (C : Addr) (cl : List (Str × Addr)) (fp : List Addr), PG (X.blk s H scope (compEnvC scope cl C X.env) fp) tg g)
    (hk : ∀ (s : Shared) (H : Hp) (C : Addr) (cl : List (Str × Addr)) (fp : List Addr), PE (X.blk s H scope (compEnvC scope cl C X.env) fp) kx tk)
    (he : ∀ (s : Shared) (H : Hp) (C : Addr) (cl : List (Str × Addr)) (fp : List Addr), PE (X.blk s H scope (compEnvC scope cl C X.env) fp) vx tv) (hs : ∀ x, foldedSetIterable iter X.env x = pure x := by intro _; rfl) :
    PE X (.DictComp kx vx [⟨tg, iter, [], 0⟩] scope pos) (tDcT wi g tk tv (own.map (·.2))) := by
  refine ⟨fun pins s σ H Q I h => ?_⟩
  rw [arm_eval_DictComp]
  have cells : ∀ y ∈ scope.names, y.2 = .free → ∃ c, X.env.cells.lookup y.1 = some c := fun y hy e => (ok.free y hy e).elim (fun k => I.ok.has _ (.inl k)) fun k => I.ok.has _ (.inr k)
  refine wpAny_comprehension_free (use := none) rfl hs (closure_ok cells) ok.kind (fun y hy e => by rw [ok.uniq y hy, e]) (thn (hi.run pins s σ H _ I h) fun xv s1 hx => thn hx fun itv s2 h2 => ?_)
  obtain ⟨it, fp, tn, J, H2, rfl, I2, T, st2, f2, q⟩ := h2
  refine wpAny_newObj_type (newEnv_comp ?_)
  -- the dict, at D
  have hDn : H2 s2.heap.objs.size = none := I2.hok.fresh (Nat.le_refl _)
  obtain ⟨W, ⟨m0, w0⟩, turn⟩ := q _ hDn
  have I3 : Inv X pins σ (upd H2 s2.heap.objs.size (.dT [])) { s2 with heap := s2.heap.push { cls := .type "dict", data := .dict #[] } } := I2.laid (t' := s2.toks) (fun b o e => Heap.get?_push_of_some _ e) (Nat.le_refl _) (dt_empty s2.heap I2.big)
  have f3 : ∀ b ∈ fp, FpOk X pins (upd H2 s2.heap.objs.size (.dT [])) b ∧ b < (s2.heap.push { cls := .type "dict", data := .dict #[] }).objs.size := fun b hb => by
    obtain ⟨o, e, _⟩ := T.obj _ _ st2 b hb
    have hlt := Heap.lt_size e
    refine ⟨⟨?_, (f2 b hb).2⟩, by rw [Heap.size_push]; exact Nat.lt_succ_of_lt hlt⟩
    rw [upd_ne (Nat.ne_of_lt hlt)]
    exact (f2 b hb).1
  have st3 : tn 0 (s2.heap.push { cls := .type "dict", data := .dict #[] }) := T.keep _ _ _ st2 fun b _ o e => Heap.get?_push_of_some _ e
  generalize s2.heap.objs.size = D at hDn turn w0 I3 f3 ⊢
  generalize hs3 : ({ s2 with heap := s2.heap.push { cls := .type "dict", data := .dict #[] } } : Shared) = s3 at I3
  have hh3 : s2.heap.push { cls := .type "dict", data := .dict #[] } = s3.heap := by rw [← hs3]
  rw [hh3] at f3 st3
  generalize upd H2 D (.dT []) = H3 at w0 I3 f3
  -- the block
  have I4 := block_start I3 ok hN f3
  have pg := hg s3 H3 s3.heap.objs.size (cellsFrom (s3.heap.objs.size + 1) scope.names (cloFrom X.env.cells scope.names [])) fp
  have pk := hk s3 H3 s3.heap.objs.size (cellsFrom (s3.heap.objs.size + 1) scope.names (cloFrom X.env.cells scope.names [])) fp
  have pe := he s3 H3 s3.heap.objs.size (cellsFrom (s3.heap.objs.size + 1) scope.names (cloFrom X.env.cells scope.names [])) fp
  have st4 : tn 0 (pushCells (s3.heap.push { cls := .type "dict", data := .dict #[] }) scope.names) := T.keep _ _ _ st3 fun b _ o e => pushCells_keeps _ _ _ _ (Heap.get?_push_of_some _ e)
  show codeAny _ _ (.compStart (.DictComp kx vx [⟨tg, iter, [], 0⟩] scope pos) 0 (.ref it) (.ref D) (compEnvC scope (cellsFrom (s3.heap.objs.size + 1) scope.names (cloFrom X.env.cells scope.names [])) s3.heap.objs.size X.env)) (compPost (model X.prog X.w) X.A X.xe none _ (.ref D) s3.heap.objs.size) { s3 with heap := pushCells (s3.heap.push { cls := .type "dict", data := .dict #[] }) scope.names }
  have cL : (compEnvC scope (cellsFrom (s3.heap.objs.size + 1) scope.names (cloFrom X.env.cells scope.names [])) s3.heap.objs.size X.env).locals = s3.heap.objs.size := rfl
  generalize compEnvC scope (cellsFrom (s3.heap.objs.size + 1) scope.names (cloFrom X.env.cells scope.names [])) s3.heap.objs.size X.env = ce at I4 pg pk pe cL ⊢
  have stays : ∀ {σ' : St} {H' : Hp} {s' : Shared}, Inv (X.blk s3 H3 scope ce fp) [] σ' H' s' → (∀ b ∈ fp, H' b = none) → ∀ b ∈ fp, FpOk (X.blk s3 H3 scope ce fp) [] H' b := fun {σ' H' s'} I' hn b hb =>
    ⟨hn b hb, (I'.ok.exf b hb).1, I'.ok.exfs b hb, .inl hb, fun x c e => (I'.ok.exf b hb).2 x c e, fun p hp => nomatch (show p ∈ ([] : List (Addr × Obj)) from hp)⟩
  have loop : codeAny (model X.prog X.w) X.A (.compLoop (.DictComp kx vx [⟨tg, iter, [], 0⟩] scope pos) 0 (.ref it) (.ref D) ce) (compPost (model X.prog X.w) X.A X.xe none (EP X pins σ Q) (.ref D) s3.heap.objs.size) { s3 with heap := pushCells (s3.heap.push { cls := .type "dict", data := .dict #[] }) scope.names } := by
    refine compLoop_anyD (fun n s' => ∃ i H', Inv (X.blk s3 H3 scope ce fp) [] (wipe σ (own.map (·.2))) H' s' ∧ tn i s'.heap ∧ (∀ b ∈ fp, H' b = none) ∧ W i n H') ?_ m0 ⟨0, H3, I4, st4, fun b hb => (f3 b hb).1.1, w0⟩
    rintro n s5 ⟨i, H5, I5, st5, n5, w5⟩
    rcases turn i n H5 w5 with ⟨stop, qq⟩ | ⟨go, Nx, hNx, step⟩
    · refine thnF (T.done (X.blk s3 H3 scope ce fp) rfl rfl rfl hc i [] s5 _ H5 (fun _ _ => False) I5 (stays I5 n5) st5 stop) fun r s6 ⟨hr, I6⟩ => ?_
      subst hr
      have nC : H5 s3.heap.objs.size = none := by
        rw [← cL]
        exact I6.free
      have I7 : Inv X pins σ H5 s6 := I3.call' (ch := fp) I6.os I6.base I6.hok I6.bare fun b hb => ⟨(f3 b hb).1.2.2.2.1, (f3 b hb).1.2.1, (f3 b hb).1.2.2.2.2.1, (f3 b hb).1.2.2.2.2.2⟩
      obtain ⟨m, hn, _⟩ := I6.loc
      have hn' : s6.heap.Ns ce.locals m := hn
      rw [cL] at hn'
      obtain ⟨g0, g1, g2, g3, g4, g5⟩ := I3.fpOk (H' := H5) (Nat.le_refl _) nC
      exact ⟨m, hn', fun h'' sb => ⟨.ref D, H5, I7.turned (t' := s6.toks) (fun b o hb e => (sb.2 b hb).trans e) g0 g1 g3 g4 g5, rfl, qq⟩⟩
    · refine thnF (T.item (X.blk s3 H3 scope ce fp) rfl rfl rfl hc i [] s5 _ H5 (fun _ _ => False) I5 (stays I5 n5) st5 go) fun r s6 ⟨u, hr, h6⟩ => ?_
      subst hr
      refine thnF h6 fun _ s7 ⟨x, H7, I7, r7, y7, st7, n7⟩ => ?_
      have I7' := I7.pinned (stays I7 n7) (T.obj _ _ st7)
      refine thnF (pg.run _ s7 _ H7 x u _ I7' r7 (step x H7 y7)) fun _ s8 ⟨σ8, H8, I8, hw8, q8⟩ => ?_
      refine wpAny_tests_nil ?_
      rw [if_pos rfl]
      refine thnF (pk.run _ s8 σ8 H8 _ I8 q8) fun z s10 ⟨yk, H10, I10, r10, q10⟩ => ?_
      refine thnF (pe.run _ s10 σ8 H10 _ I10 q10) fun z2 s11 ⟨yv, H11, I11, r11, b, kvs, k, ek, hkb, hD11, hz11, nx⟩ => ?_
      subst ek
      obtain rfl : z = Value.ref b := r10
      refine set_dT (X := X.blk s3 H3 scope ce fp) hu I11 hD11 hkb hz11 r11 fun s12 I12 => ?_
      obtain ⟨m', hm, w'⟩ := hNx _ nx
      have pin' : ∀ c ∈ fp, ∀ o, s7.heap.get? c = some o → s12.heap.get? c = some o ∧ (upd H11 D (.dT (putK kvs k yv))) c = none := fun c hcm o e =>
        let y := I12.pin (c, o) (List.mem_append_right _ (List.mem_append_right _ (mem_pinsAt hcm e)))
        ⟨y.1, y.2.1⟩
      refine ⟨m', hm, i + 1, _, (I12.unpinned (pins := [])).weak (by rw [← hw8, wipe_length]) (fun j v e => ?_), T.keep _ _ _ st7 fun c hcm o e => (pin' c hcm o e).1, fun c hcm => ?_, w'⟩
      · rw [← hw8] at e
        exact (wipe_some e).1
      · obtain ⟨o, e, _⟩ := T.obj _ _ st7 c hcm
        exact (pin' c hcm o e).2
  exact codeAny_compStart_dict loop (T.self X.A 0 _ _ _ st4 loop)
end
end Jt

set_option Elab.async false
set_option linter.all false
set_option maxRecDepth 100000
set_option maxHeartbeats 4000000
/-! for k, x in enumerate(t), t a tuple. -/
namespace Jt
open PySem PySem.Spec PyProof.Rows L2 PySem.W
open AutoSeq1 (wpAny_loadPart')

/-- enumerate(v) from nought: the two new cells -/
theorem new_enum1 {v : Value} {o : Obj} {B : Heap → Prop} (b : Begins v o B) :
    Meets (Builtin.«enumerate.__new__» ⟨[.type "enumerate", v], []⟩) (fun _ R s => B s.heap ∧
      R (.ok (.ret (.ref (s.heap.push o).objs.size))) { s with heap := (s.heap.push o).push { cls := .type "enumerate", data := .fields #[.none, .bool false, .ref s.heap.objs.size, rawInt 0, .none, .none] } }) :=
  .of_wp fun prog w A R s h => by
    obtain ⟨hp, g, d, tk, os⟩ := s
    obtain ⟨h1, h⟩ := h
    have hsub := sub_enumerate
    have it : ∀ {A' : Around} {E : Value → Shared → Prop} {Q : Value → Shared → Prop}, Q (.ref hp.objs.size) ⟨hp.push o, g, d, tk, os⟩ → wpAny (model prog w) A' (pyIter v) Q E ⟨hp, g, d, tk, os⟩ :=
      fun q => b.iter prog w _ _ ⟨hp, g, d, tk, os⟩ _ h1 q
    wp_walk using it
    refine wpAny_stack_any fun st => wpAny_pure ?_
    split
    · rename_i c _ _ _ _ _
      cases (c == Value.type "enumerate") <;> (wp_walk using it; exact ⟨_, rfl, h⟩)
    · wp_walk using it
      exact ⟨_, rfl, h⟩
/-- the tuple at a, each item in a new pair with its place -/
def Itet (K : PySem.W.Frag) (a : Addr) : It :=
  ⟨fun i H => ∃ (xs : List V) (x : V), SqT K H a xs ∧ xs[i]? = some x, fun i H v H' => ∃ T x, v = .ref T ∧ H T = none ∧ H' = upd H T (.tup [.int (i : Nat), x]) ∧ ∀ xs, SqT K H a xs → xs[i]? = some x, fun i H => ∃ xs : List V, SqT K H a xs ∧ xs.length ≤ i⟩
theorem turn_enumT {P : Program} {w : World} {K : PySem.W.Frag} {elts : List Expr} {kk : Nat} {tpos : Pos} (a e it : Addr) :
    Turn P w K (.Tuple elts kk tpos) (Itet K a) [e, it] e (fun i h => (∃ old, IsEnum h e it ((i : Nat) : Int) old) ∧ h.IsTupleIter it a i ∧ e ≠ it) where
  mem := by simp
  obj := fun i h st b hb => by
    obtain ⟨⟨old, he⟩, ⟨o, ho, hc, hd⟩, _⟩ := st
    rcases List.mem_cons.mp hb with z | z
    · rw [z]; exact ⟨_, he, fun v q => nomatch q⟩
    · rw [List.mem_singleton.mp z]; exact ⟨o, ho, fun v q => by rw [hd] at q; cases q⟩
  keep := fun i h h' st k => by
    obtain ⟨⟨old, he⟩, hi, hne⟩ := st
    exact ⟨⟨old, k e (by simp) _ he⟩, hi.at fun o q => k it (by simp) o q, hne⟩
  item := by
    intro X hP hw hK hc i pins s σ H E I hf st hg
    subst hP hw hK
    obtain ⟨⟨old, he⟩, hit, hne⟩ := st
    obtain ⟨xs, x, hq, hx⟩ := hg
    obtain ⟨its, rv, p, hz⟩ := I.tuple hq
    have p' : s.heap.IsTuple a its.toArray := p
    obtain ⟨u, hu, ru⟩ := rv.get hx
    have hel : e < s.heap.objs.size := Heap.lt_size he
    have hil : it < s.heap.objs.size := by obtain ⟨_, q, _⟩ := hit; exact Heap.lt_size q
    have hea : a ≠ e := fun z => by
      obtain ⟨o, ho, hcl, _⟩ := p'
      rw [z, he] at ho
      rw [← Option.some.inj ho] at hcl
      have hcl : Value.type "enumerate" = Value.type "tuple" := hcl
      exact absurd hcl (by decide)
    have hia : a ≠ it := fun z => by
      obtain ⟨o, ho, hcl, _⟩ := p'
      obtain ⟨o2, ho2, hcl2, _⟩ := hit
      rw [z, ho2] at ho
      rw [← Option.some.inj ho, hcl2] at hcl
      exact absurd hcl (by decide)
    have D := Draws.tuple (prog := X.prog) (w := X.w) (A := X.A.in1) (I.ok.hd hc) it a hia its.toArray
    have hlt : i < its.toArray.size := by rw [List.size_toArray]; exact (List.getElem?_eq_some_iff.mp hu).1
    refine wpAny_pyNext_enum_itemC D he ⟨hit, p'⟩ hlt hne (by simp [hne, hea.symm]) fun x2 h' tk hP ho hst' hT hsz hk => ?_
    obtain ⟨hit', _⟩ := hst'
    have hx2 : x2 = u := by
      have h1 : its[i]? = some x2 := by simpa using hP
      rw [hu] at h1
      exact (Option.some.inj h1).symm
    subst hx2
    refine ⟨_, rfl, wpAny_letOwnedTupleGo_enum (s := { s with heap := h', toks := tk + 1 }) ho fun h'' he' sb => ?_⟩
    have hT2 : h''.get? s.heap.objs.size = some { cls := .type "tuple", data := .seq #[.int i tk, x2] } := (sb.2 _ (Nat.ne_of_gt hel)).trans hT
    have new : ObjOk X.prog X.w (upd H s.heap.objs.size (.tup [.int (i : Nat), x])) h'' s.heap.objs.size (.tup [.int (i : Nat), x]) :=
      ⟨by show 2 ≤ sizeLine; decide, [.int i tk, x2], .cons ⟨_, rfl⟩ (.cons ru .nil), ⟨_, hT2, rfl, _, rfl⟩⟩
    have nin : ∀ {b : Addr}, b ∉ [e, it] → b ≠ e ∧ b ≠ it := fun {b} hb => ⟨fun z => hb (by simp [z]), fun z => hb (by simp [z])⟩
    have I1 : Inv X pins σ (upd H s.heap.objs.size (.tup [.int (i : Nat), x])) { s with heap := h'', toks := tk + 1 } :=
      I.turnedNew (ch := [e, it]) (fun b ob hb q => (sb.2 b (nin hb).1).trans (hk b ob (nin hb).1 (nin hb).2 q)) hf (Nat.le_refl _) new
    refine ⟨.ref s.heap.objs.size, _, I1, rfl, ⟨_, x, rfl, I.hok.fresh (Nat.le_refl _), rfl, fun ys hy => by rw [I.tuple_inj hy hq]; exact hx⟩, ⟨⟨x2, ?_⟩, hit'.at fun o q => (sb.2 it (Ne.symm hne)).trans q, hne⟩, fun b hb => ?_⟩
    · have e1 : ((i + 1 : Nat) : Int) = (i : Int) + 1 := by omega
      rw [e1]
      exact he'
    · have hb' : b < s.heap.objs.size := by
        rcases List.mem_cons.mp hb with z | z
        · rw [z]; exact hel
        · rw [List.mem_singleton.mp z]; exact hil
      rw [upd_ne (Nat.ne_of_lt hb')]
      exact (hf b hb).1
  done := by
    intro X hP hw hK hc i pins s σ H E I hf st hg
    subst hP hw hK
    obtain ⟨⟨old, he⟩, hit, hne⟩ := st
    obtain ⟨xs, hq, hx⟩ := hg
    obtain ⟨its, rv, p, hz⟩ := I.tuple hq
    have p' : s.heap.IsTuple a its.toArray := p
    obtain ⟨f0, f1, f2, f3, f4, f5⟩ := hf it (by simp)
    have hia : a ≠ it := fun z => by
      obtain ⟨o, ho, hcl, _⟩ := p'
      obtain ⟨o2, ho2, hcl2, _⟩ := hit
      rw [z, ho2] at ho
      rw [← Option.some.inj ho, hcl2] at hcl
      exact absurd hcl (by decide)
    have hn : its.toArray[i]? = none := by
      have hl := rv.length
      simp
      omega
    have hh3 : X.A.in1.in1.handled = none := I.ok.hd hc
    have hT : s.TypeIs (.ref e) "enumerate" := ⟨_, he, rfl⟩
    unfold pyNext
    refine wpAny_bind (wpAny_attempt (wpAny_callSpecial?_slot (name := Str.ofString "__next__") hT F.slot_enumerate_next (wpAny_call_entry F.slot_enumerate_next hT F.entry_enumerate_next ?_ (F.args_enumerate_next_1 _))))
    show wpAny _ _ (field (.ref e) 2 >>= _) _ _ _
    refine wpAny_bind (wpAny_field he rfl (x := .ref it) rfl ?_)
    refine wpAny_bind (wpAny_nextOf_tuple_end hh3 hit p' hn fun h' x he' hx' => ?_)
    obtain ⟨o, ho, hcl⟩ := hx'
    refine wpAny_bind (wpAny_isInstance (T := "StopIteration") (b := true) ⟨o, ho, hcl⟩ isSubtype_stop ?_)
    exact wpAny_pure ⟨rfl, I.turned (t' := s.toks) (fun b o hb q => he' b o hb q) f0 f1 f3 f4 f5⟩
  self := fun A i s Q E st h => let ⟨⟨_, he⟩, _⟩ := st; wpAny_pyIter_enum he h
def iEnumT (K : PySem.W.Frag) (ta : TA) : TI := fun σ H R => ta σ H fun vs H1 => ∃ a xs, vs = [.ref a] ∧ SqT K H1 a xs ∧ R (Itet K a) H1
theorem pi_enumT {X : Cx} {e : Expr} {ta : TA} {p pos tpos : Pos} {elts : List Expr} {kk : Nat} (hg : Gl X "enumerate") (hm : X.mg "enumerate" = none) (ha : PA X [e] ta) (hs : starEach [e] X.env = [(false, eval e X.env)] := by rfl) :
    PI X (.Tuple elts kk tpos) (.Call (.Name "enumerate" p) [e] [] pos) (iEnumT X.K ta) := by
  refine ⟨fun pins s σ H R I h => ?_⟩
  refine Call_ (ld_blt I hg hm boot_enumerate (PyProof.Rows.callWith_type1 (thn (ha.run pos pins s σ H _ I h) fun us s1 ⟨vs, H1, I1, r1, q1⟩ => ?_) hs rfl))
  obtain ⟨a, xs, rfl, hq, q⟩ := q1
  obtain ⟨u1, rfl, ru⟩ := vals1 r1
  obtain rfl : u1 = Value.ref a := ru
  obtain ⟨its, rv, p', hz⟩ := I1.tuple hq
  refine callType_new F.called_enumerate (by decide) (F.typeCall_enumerate_1 _) (F.newCall_enumerate_1 _) (fun obj => F.args_object_init_2 obj _) F.entry_enumerate_new (new_enum1 (begins_tuple a its.toArray)) ⟨p', ?_⟩
  have hz1 : (s1.heap.push { cls := .type "tuple_iterator", data := .fields #[.ref a, .int 0 0] }).objs.size = s1.heap.objs.size + 1 := Heap.size_push ..
  have he : IsEnum ((s1.heap.push { cls := .type "tuple_iterator", data := .fields #[.ref a, .int 0 0] }).push { cls := .type "enumerate", data := .fields #[.none, .bool false, .ref s1.heap.objs.size, rawInt 0, .none, .none] }) (s1.heap.objs.size + 1) s1.heap.objs.size 0 .none := by
    have h2 := Heap.get?_push_size (s1.heap.push { cls := .type "tuple_iterator", data := .fields #[.ref a, .int 0 0] }) (o := { cls := .type "enumerate", data := .fields #[.none, .bool false, .ref s1.heap.objs.size, rawInt 0, .none, .none] }) rfl
    rw [hz1] at h2
    exact h2
  show _ ∧ _
  rw [hz1]
  refine ⟨⟨_, he, rfl⟩, wpAny_pyIter_enum he ?_⟩
  have I2 := I1.kept (t' := s1.toks) (h' := (s1.heap.push { cls := .type "tuple_iterator", data := .fields #[.ref a, .int 0 0] }).push { cls := .type "enumerate", data := .fields #[.none, .bool false, .ref s1.heap.objs.size, rawInt 0, .none, .none] }) fun b o x => Heap.get?_push_of_some _ (Heap.get?_push_of_some _ x)
  refine ⟨s1.heap.objs.size + 1, [s1.heap.objs.size + 1, s1.heap.objs.size], _, _, H1, rfl, I2, turn_enumT a (s1.heap.objs.size + 1) s1.heap.objs.size, ⟨⟨.none, he⟩, ⟨_, Heap.get?_push_of_some _ (Heap.get?_push_size _ rfl), rfl, rfl⟩, Nat.succ_ne_self _⟩, fun b hb => ?_, q⟩
  have hle : s1.heap.objs.size ≤ b := by
    rcases List.mem_cons.mp hb with z | z
    · rw [z]; exact Nat.le_succ _
    · rw [List.mem_singleton.mp z]; exact Nat.le_refl _
  exact I1.fpOk hle (I1.hok.fresh hle)
end Jt

set_option Elab.async false
set_option linter.all false
set_option maxRecDepth 100000
set_option maxHeartbeats 4000000
/-! Sets of tuples of texts: set(xs), len of it, sorted of it. The table's own theory is HandS.TupSets'. -/
namespace Jt
open PySem PySem.Spec PyProof.Rows L2 PySem.W

section
variable {P : Program} {w : World} {A : Around} {E : Value → Shared → Prop} {s : Shared}
/-- the tuple at a has the texts k; its hash -/
abbrev IsS (P : Program) (w : World) (h : Heap) (k : List Str) (a : Addr) : Prop := IsTupleKey (PySem.strKind P w) h k a
abbrev hS (P : Program) (w : World) (k : List Str) : Int := tupleKeyHash (PySem.strKind P w) k
theorem str_items {k : List Str} {vs : List Value} (h : ItemsAre (PySem.strKind P w) k vs) : ∀ v ∈ vs, ∃ x t, v = Value.str x t := by
  induction h with
  | nil => exact fun v hv => nomatch hv
  | @cons k0 v' ks vs h1 _ ih =>
    intro v hv
    rcases List.mem_cons.mp hv with e | hv
    · obtain ⟨t, e2⟩ := Value.isStrOf_shape h1
      exact ⟨k0, t, e.trans e2⟩
    · exact ih v hv
theorem cls_str (n : Nat) (x : Str) (t : Tok) : ofAClassStatement n (.str x t) = pure false := by
  cases n <;> rfl
theorem byv_str (n : Nat) (x : Str) (t : Tok) : hashByValue n (.str x t) = pure false := by
  cases n <;> rfl
theorem cls_tup {k : List Str} {b : Addr} {Q : Bool → Shared → Prop} (hk : IsS P w s.heap k b) (h : Q false s) : wpAny (model P w) A (ofAClassStatement 8 (.ref b)) Q E s := by
  have hT := hk.typeIs
  obtain ⟨o, items, n, ho, _, hd, hi⟩ := hk
  have all := str_items hi
  unfold ofAClassStatement
  refine wpAny_bind (wpAny_typeOf hT ?_)
  have e : (("tuple" : String) == "tuple") = true := by decide
  simp only [e, if_true, Bool.not_true, Bool.false_eq_true, if_false]
  first
    | refine wpAny_bind (wpAny_pure ?_)
    | skip
  try simp only [Bool.not_true, Bool.false_eq_true, if_false]
  show wpAny _ _ (seqItems? (.ref b) >>= _) _ _ s
  refine wpAny_bind (wpAny_seqItems ho hd ?_)
  dsimp only
  refine wpAny_bind ?_
  show wpAny _ _ (forIn items _ _) _ _ s
  rw [← Array.forIn_toList]
  refine wpAny_forIn_list _ (fun rest r s' => s' = s ∧ r.1 = none ∧ ∀ v ∈ rest, ∃ x t, v = Value.str x t) _ (fun v rest r s' hI => ?_) (fun r s' hI => ?_) _ _ ⟨rfl, rfl, all⟩
  · obtain ⟨rfl, hr, ha⟩ := hI
    obtain ⟨x, t, rfl⟩ := ha v List.mem_cons_self
    rw [cls_str]
    refine wpAny_bind (wpAny_pure ?_)
    simp only [Bool.false_eq_true, if_false]
    exact wpAny_pure ⟨rfl, rfl, fun u hu => ha u (List.mem_cons_of_mem _ hu)⟩
  · obtain ⟨rfl, hr, _⟩ := hI
    obtain ⟨r1, r2⟩ := r
    simp only at hr
    subst hr
    exact wpAny_pure h
theorem byv_tup {k : List Str} {b : Addr} {Q : Bool → Shared → Prop} (hk : IsS P w s.heap k b) (h : ∀ c, Q c s) : wpAny (model P w) A (hashByValue 8 (.ref b)) Q E s := by
  have hT := hk.typeIs
  obtain ⟨o, items, n, ho, _, hd, hi⟩ := hk
  have all := str_items hi
  unfold hashByValue
  refine wpAny_bind (wpAny_specialOf hT F.slot_tuple_hash.lookup ?_)
  show wpAny _ _ (seqItems? (.ref b) >>= _) _ _ s
  refine wpAny_bind (wpAny_seqItems ho hd ?_)
  refine wpAny_bind ?_
  show wpAny _ _ (forIn items _ _) _ _ s
  rw [← Array.forIn_toList]
  cases hl : items.toList with
  | nil =>
    rw [List.forIn_nil]
    exact wpAny_pure (wpAny_pure (h _))
  | cons v rest =>
    obtain ⟨x, t, rfl⟩ := all v (by rw [hl]; exact List.mem_cons_self)
    rw [List.forIn_cons, byv_str]
    refine wpAny_bind (wpAny_bind (wpAny_pure ?_))
    simp only [Bool.not_false, if_true]
    exact wpAny_pure (wpAny_pure (wpAny_pure (h _)))
/-- a search among such tuples is not seen -/
theorem seen_strs {k : List Str} {b : Addr} {Q : Bool → Shared → Prop} (hk : IsS P w s.heap k b) {ys : List Value} (hy : ∀ y ∈ ys, ∃ k' c, y = Value.ref c ∧ IsS P w s.heap k' c) (h : Q false s) :
    wpAny (model P w) A (searchCouldBeSeen (.ref b) ys) Q E s := by
  unfold searchCouldBeSeen
  refine wpAny_bind ?_
  refine wpAny_forIn_list _ (fun rest r s' => s' = s ∧ r.1 = none ∧ ∀ y ∈ rest, ∃ k' c, y = Value.ref c ∧ IsS P w s.heap k' c) _ (fun v rest r s' hI => ?_) (fun r s' hI => ?_) _ _ ⟨rfl, rfl, hy⟩
  · obtain ⟨rfl, hr, ha⟩ := hI
    obtain ⟨k', c, rfl, hc⟩ := ha v List.mem_cons_self
    have more : ∀ y ∈ rest, ∃ k' c, y = Value.ref c ∧ IsS P w s'.heap k' c := fun u hu => ha u (List.mem_cons_of_mem _ hu)
    dsimp only
    by_cases hv : (b == c || (carriedByValue (.ref b) && carriedByValue (.ref c))) = true
    · exact wp_if_pos hv (wpAny_pure ⟨rfl, rfl, more⟩)
    · refine wp_if_neg hv (wpAny_bind (wpAny_eqIsQuiet_tuple hk ?_))
      simp only [Bool.not_true, Bool.false_eq_true, if_false]
      refine wpAny_bind (wpAny_eqIsQuiet_tuple hc ?_)
      simp only [Bool.not_true, Bool.false_eq_true, if_false]
      refine wpAny_bind (cls_tup hk ?_)
      simp only [Bool.false_eq_true, if_false]
      refine wpAny_bind (cls_tup hc ?_)
      simp only [Bool.false_eq_true, if_false]
      exact wpAny_pure ⟨rfl, rfl, more⟩
  · obtain ⟨rfl, hr, _⟩ := hI
    obtain ⟨r1, r2⟩ := r
    simp only at hr
    subst hr
    exact wpAny_pure h

/-! ### the set at a -/
abbrev rowS (P : Program) (w : World) (L : List (Addr × List Str)) : List (Int × Value) := L.map fun p => (hS P w p.2, Value.ref p.1)
structure SR (P : Program) (w : World) (h : Heap) (a : Addr) (L : List (Addr × List Str)) (es : Array (Int × Value)) (ep : Nat) (t : SetTable) : Prop where
  ob : ∃ o, h.get? a = some o ∧ o.ExactSet ∧ o.data = .set es ep t
  rows : es.toList = rowS P w L
  tab : TabOk t (L.map fun p => hS P w p.2)
  nd : (L.map (·.2)).Nodup
  tup : ∀ p ∈ L, IsS P w h p.2 p.1
  led : w.params.followText "set-order" = true ∨ t.led = true
  room : L.length * 5 < t.mask * 3
  few : L.length < 64
variable {a : Addr} {L : List (Addr × List Str)} {es : Array (Int × Value)} {ep : Nat} {t : SetTable}
theorem SR.size {h : Heap} (R : SR P w h a L es ep t) : es.size = L.length := by
  have q := congrArg List.length R.rows
  rwa [Array.length_toList, List.length_map] at q
theorem SR.fits {h : Heap} (R : SR P w h a L es ep t) : t.fits es.size = true := by
  have h1 := R.tab.sz
  have h2 := R.size
  have h3 := R.room
  rw [List.length_map] at h1
  unfold SetTable.fits SetTable.fill
  rw [R.tab.dm, Bool.and_eq_true, beq_iff_eq, decide_eq_true_eq]
  show t.place.size = es.size ∧ t.place.size + 0 ≤ t.mask
  omega
theorem SR.entry {h : Heap} (R : SR P w h a L es ep t) {i : Nat} {p : Addr × List Str} (q : L[i]? = some p) : es[i]? = some (hS P w p.2, Value.ref p.1) := by
  rw [← Array.getElem?_toList, R.rows, List.getElem?_map, q]
  rfl
theorem SR.gw {h : Heap} (R : SR P w h a L es ep t) : ¬ t.gaveWay = true := by
  unfold SetTable.gaveWay
  rw [mask_odd R.tab.mok]
  decide
/-- the c-th step of the way of h -/
def prb (m : Nat) (h : Int) (c : Nat) : SetTable.Probe := nth m (runAt m (SetTable.bits h % (m + 1)) (SetTable.bits h)) c
theorem prb_add (m : Nat) (h : Int) (c q : Nat) : nth m (prb m h c) q = prb m h (c + q) := (nth_add m c _ q).symm
theorem prb_way (m : Nat) (h : Int) (c : Nat) : (prb m h c).j = way m h c := rfl
theorem adv_dummy (m : Nat) (p : SetTable.Probe) (h : p.dummy = none) : (adv m p).dummy = none := by
  unfold adv
  split <;> exact h
theorem prb_dummy (m : Nat) (h : Int) : ∀ c, (prb m h c).dummy = none
  | 0 => rfl
  | c + 1 => by
    unfold prb
    rw [nth_succ]
    exact adv_dummy m _ (prb_dummy m h c)
/-- the search for k, from the c-th step on; K is the first empty slot's -/
theorem find_str (R : SR P w s.heap a L es ep t) {x : Addr} {k : List Str} (hx : IsS P w s.heap k x) (hu : A.units < cLine) {K : Nat} (hKf : K < 10 * SetTable.turns t.mask)
    (hK : way t.mask (hS P w k) K ∉ t.place.toList) (hKb : ∀ c, c < K → way t.mask (hS P w k) c ∈ t.place.toList) {Q : SetFound → Shared → Prop}
    (hin : k ∈ L.map (·.2) → Q (.there none) s) (hout : k ∉ L.map (·.2) → Q (.free (way t.mask (hS P w k) K) false) s) :
    ∀ (n f c : Nat) (stand : Option SetTable.Probe), K - c ≤ n → n < f → c ≤ K → stand.getD (t.probeStart (hS P w k)) = prb t.mask (hS P w k) c →
      (∀ (i : Nat) p, L[i]? = some p → p.2 = k → ∃ c', c ≤ c' ∧ c' < K ∧ t.place.toList[i]? = some (way t.mask (hS P w k) c')) →
      wpAny (model P w) A (setSearchFrom a (.ref x) (hS P w k) true f stand) Q E s
  | _, 0, _, _, _, hf, _, _, _ => absurd hf (Nat.not_lt_zero _)
  | n, f + 1, c, stand, hn, hf, hc, hst, hre => by
    obtain ⟨o, ho, hex, hd⟩ := R.ob
    have hashAt : ∀ (i : Nat) p, L[i]? = some p → (es[i]?.map (·.1)).getD 0 = hS P w p.2 := fun i p hp => by
      rw [R.entry hp]
      rfl
    rw [setSearchFrom_succ]
    refine wpAny_bind (wpAny_setState_of ho hd R.fits ?_)
    dsimp only
    refine wp_if_neg R.gw ?_
    try refine wpAny_bind (wpAny_pure ?_)
    have spec := go_spec t R.tab.ris R.tab.dm (fun i => (es[i]?.map (·.1)).getD 0) (hS P w k) (10 * SetTable.turns t.mask) (K - c) (prb t.mask (hS P w k) c) (prb_dummy _ _ _) (by omega)
      (fun q hq => by rw [prb_add]; exact hKb (c + q) (by omega)) (by rw [prb_add, show c + (K - c) = K by omega]; exact hK)
    simp only [prb_add, prb_way] at spec
    rcases spec with ⟨q, i, hq, hi, hh, hno, hpr⟩ | ⟨hno, hpr⟩
    · -- an entry of the same hash, at the step c + q
      have hpr' : t.probe (fun i => (es[i]?.map (·.1)).getD 0) (hS P w k) (stand.getD (t.probeStart (hS P w k))) = some (.candidate (way t.mask (hS P w k) (c + q)) i (prb t.mask (hS P w k) (c + (q + 1)))) := by
        rw [hst]
        exact hpr
      rw [hpr']
      dsimp only
      have hil : i < L.length := by
        have h1 : i < t.place.toList.length := (List.getElem?_eq_some_iff.mp hi).1
        have h2 := R.tab.sz
        rw [List.length_map] at h2
        rw [Array.length_toList] at h1
        omega
      obtain ⟨p, hp⟩ : ∃ p, L[i]? = some p := ⟨_, List.getElem?_eq_getElem hil⟩
      have hmem : p ∈ L := List.mem_of_getElem? hp
      have rest : wpAny (model P w) A (searchRest a (.ref x) (hS P w k) true f es t (way t.mask (hS P w k) (c + q)) i (prb t.mask (hS P w k) (c + (q + 1)))) Q E s := by
        unfold searchRest
        rw [R.entry hp]
        dsimp only
        refine wpAny_bind (wpAny_holding (wpAny_eqBool_tuple hu (R.tup p hmem) hx ?_))
        refine wpAny_bind (wpAny_setState_of ho hd R.fits ?_)
        dsimp only
        by_cases hkk : p.2 = k
        · exact wp_if_pos (by simp [hkk]) (wpAny_pure (hin (List.mem_map.mpr ⟨p, hmem, hkk⟩)))
        · refine wp_if_neg (by simp [hkk]) ?_
          try refine wpAny_bind (wpAny_pure ?_)
          rw [sameMem]
          dsimp only
          have hsl : t.slot (way t.mask (hS P w k) (c + q)) = .live i := slot_live R.tab.ris hi
          simp only [if_true, hsl, R.entry hp]
          refine wpAny_bind (wpAny_isSame_ref_self (wpAny_bind (wpAny_pure ?_)))
          simp only [if_true]
          refine wp_if_neg (by simp [hkk]) ?_
          refine find_str R hx hu hKf hK hKb hin hout (n - 1) f (c + (q + 1)) _ (by omega) (by omega) (by omega) rfl fun i0 p0 h0 hk0 => ?_
          obtain ⟨c', b1, b2, b3⟩ := hre i0 p0 h0 hk0
          refine ⟨c', ?_, b2, b3⟩
          rcases Nat.lt_trichotomy c' (c + q) with z | z | z
          · exact absurd ((hashAt i0 p0 h0).trans (congrArg (hS P w) hk0)) (hno (c' - c) i0 (by omega) (by rw [show c + (c' - c) = c' by omega]; exact b3))
          · exfalso
            rw [z] at b3
            have s0 := slot_live R.tab.ris b3
            rw [hsl] at s0
            injection s0 with s0
            rw [← s0, hp] at h0
            exact hkk ((congrArg Prod.snd (Option.some.inj h0)).trans hk0)
          · omega
      by_cases hl : t.led = true
      · refine wp_if_neg (by simp [hl]) ?_
        try refine wpAny_bind (wpAny_pure ?_)
        exact rest
      · refine wp_if_pos (by simp [hl]) ?_
        refine wpAny_bind (seen_strs hx (fun y hy => ?_) ?_)
        · obtain ⟨e, he, ee⟩ := List.mem_map.mp hy
          have he1 : e ∈ es ∧ e.1 = hS P w k := by simpa using he
          have he2 : e ∈ es.toList := by simpa using he1.1
          rw [R.rows] at he2
          obtain ⟨p2, hp2, e2⟩ := List.mem_map.mp he2
          exact ⟨p2.2, p2.1, by rw [← ee, ← e2], R.tup p2 hp2⟩
        · refine wp_if_neg (by decide) ?_
          try refine wpAny_bind (wpAny_pure ?_)
          exact rest
    · -- the empty slot
      rw [show c + (K - c) = K by omega] at hpr
      have hpr' : t.probe (fun i => (es[i]?.map (·.1)).getD 0) (hS P w k) (stand.getD (t.probeStart (hS P w k))) = some (.empty (way t.mask (hS P w k) K) none) := by
        rw [hst]
        exact hpr
      rw [hpr']
      dsimp only
      refine wpAny_pure (hout fun hm => ?_)
      obtain ⟨p0, h0, hk0⟩ := List.mem_map.mp hm
      obtain ⟨i0, hi0, e0⟩ := List.getElem_of_mem h0
      have h00 : L[i0]? = some p0 := by rw [List.getElem?_eq_getElem hi0, e0]
      obtain ⟨c', b1, b2, b3⟩ := hre i0 p0 h00 hk0
      exact hno (c' - c) i0 (by omega) (by rw [show c + (c' - c) = c' by omega]; exact b3) ((hashAt i0 p0 h00).trans (congrArg (hS P w) hk0))
theorem seek_str (R : SR P w s.heap a L es ep t) {x : Addr} {k : List Str} (hx : IsS P w s.heap k x) (hu : A.units < cLine) {Q : SetFound → Shared → Prop} (hin : k ∈ L.map (·.2) → Q (.there none) s)
    (hout : ∀ K, k ∉ L.map (·.2) → way t.mask (hS P w k) K ∉ t.place.toList → (∀ c, c < K → way t.mask (hS P w k) c ∈ t.place.toList) → Q (.free (way t.mask (hS P w k) K) false) s) :
    wpAny (model P w) A (setSearch a (.ref x) (hS P w k) true) Q E s := by
  have hroom := R.room
  obtain ⟨K, hKf, hK, hKb⟩ := R.tab.first (by rw [List.length_map]; omega) (hS P w k)
  have hbig : K < 99999 := by
    have h1 : 10 * SetTable.turns t.mask ≤ 1420 := by
      unfold SetTable.turns
      rcases R.tab.mok with e | e | e <;> omega
    omega
  unfold setSearch
  refine find_str R hx hu hKf hK hKb hin (fun hn => hout K hn hK hKb) 99999 100000 0 none (by omega) (by omega) (Nat.zero_le _) rfl fun i p hp hk => ?_
  have hi : (L.map fun p => hS P w p.2)[i]? = some (hS P w k) := by
    rw [List.getElem?_map, hp, ← hk]
    rfl
  have hil : i < t.place.toList.length := by
    have h1 : i < L.length := (List.getElem?_eq_some_iff.mp hp).1
    have h2 := R.tab.sz
    rw [List.length_map] at h2
    rw [Array.length_toList]
    omega
  obtain ⟨c, hc, e⟩ := R.tab.before hK hi (List.getElem?_eq_getElem hil)
  exact ⟨c, Nat.zero_le _, hc, by rw [List.getElem?_eq_getElem hil, e]⟩
end
end Jt

set_option Elab.async false
set_option linter.all false
set_option maxRecDepth 100000
set_option maxHeartbeats 8000000
/-! Sets of tuples of texts: adding, set(xs). -/
namespace Jt
open PySem PySem.Spec PyProof.Rows L2 PySem.W

section
variable {P : Program} {w : World} {A : Around} {E : Value → Shared → Prop} {s : Shared}
theorem isS_but {h h' : Heap} {k : List Str} {a b : Addr} {o : Obj} {es : Array (Int × Value)} {ep : Nat} {t : SetTable} (hb : IsS P w h k b) (ho : h.get? a = some o) (hd : o.data = .set es ep t) (hs : Heap.SameBut a h h') : IsS P w h' k b := by
  obtain ⟨ob, items, n, hob, hc, hdb, hi⟩ := hb
  refine ⟨ob, items, n, (hs.2 b fun z => ?_).trans hob, hc, hdb, hi⟩
  rw [z, ho] at hob
  rw [← Option.some.inj hob, hd] at hdb
  cases hdb
theorem isS_keep {h h' : Heap} {k : List Str} {b : Addr} (x : IsS P w h k b) (hk : ∀ c o, h.get? c = some o → h'.get? c = some o) : IsS P w h' k b := by
  obtain ⟨o, items, n, ho, r⟩ := x
  exact ⟨o, items, n, hk b o ho, r⟩
/-- the rows picked in another order -/
theorem rows_by (L : List (Addr × List Str)) (es : Array (Int × Value)) (hr : es.toList = rowS P w L) : ∀ l : List Nat, (∀ i ∈ l, i < L.length) →
    l.filterMap (fun i => es[i]?) = rowS P w (l.filterMap fun i => L[i]?) ∧ ((l.filterMap fun i => L[i]?).map fun p => hS P w p.2) = l.map fun i => (es.map (·.1)).getD i 0
  | [], _ => ⟨rfl, rfl⟩
  | i :: l, h => by
    obtain ⟨e1, e2⟩ := rows_by L es hr l fun j hj => h j (List.mem_cons_of_mem _ hj)
    have hi : i < L.length := h i List.mem_cons_self
    have hL : L[i]? = some L[i] := List.getElem?_eq_getElem hi
    have he : es[i]? = some (hS P w (L[i]).2, Value.ref (L[i]).1) := by
      rw [← Array.getElem?_toList, hr, List.getElem?_map, hL]
      rfl
    have hd : (es.map (·.1)).getD i 0 = hS P w (L[i]).2 := by
      rw [Array.getD_eq_getD_getElem?, Array.getElem?_map, he]
      rfl
    rw [List.filterMap_cons_some he, List.filterMap_cons_some hL, List.map_cons, List.map_cons, e1, e2, hd]
    exact ⟨rfl, rfl⟩
theorem range_pick {α : Type} (L : List α) : (List.range L.length).filterMap (fun i => L[i]?) = L := by
  have key : ∀ n, n ≤ L.length → (List.range n).filterMap (fun i => L[i]?) = L.take n := by
    intro n
    induction n with
    | zero => intro _; rfl
    | succ n ih =>
      intro hn
      have hL : L[n]? = some L[n] := List.getElem?_eq_getElem hn
      rw [List.range_succ, List.filterMap_append, ih (Nat.le_of_lt hn), List.take_add_one, hL, List.filterMap_cons_some hL]
      rfl
  rw [key _ (Nat.le_refl _), List.take_length]
variable {a : Addr} {L : List (Addr × List Str)} {es : Array (Int × Value)} {ep : Nat} {t : SetTable}
/-- all of a set but its room -/
structure SR0 (P : Program) (w : World) (h : Heap) (a : Addr) (L : List (Addr × List Str)) (es : Array (Int × Value)) (ep : Nat) (t : SetTable) : Prop where
  ob : ∃ o, h.get? a = some o ∧ o.ExactSet ∧ o.data = .set es ep t
  rows : es.toList = rowS P w L
  sz : t.place.size = es.size
  dm : t.dummies = #[]
  fl : es.size ≤ t.mask
  nd : (L.map (·.2)).Nodup
  tup : ∀ p ∈ L, IsS P w h p.2 p.1
  led : w.params.followText "set-order" = true ∨ t.led = true
  few : L.length < 64
/-- the table laid anew -/
theorem relay_str (R : SR0 P w s.heap a L es ep t) {wanted M : Nat} (hw : SetTable.sizeAbove wanted - 1 = M) (hM : MaskOk M) (hw2 : SetTable.sizeAbove wanted ≤ 128) (hn : L.length * 5 < M * 3) {Q : Unit → Shared → Prop}
    (hQ : ∀ h' L' es' ep' t', Heap.SameBut a s.heap h' → SR P w h' a L' es' ep' t' → L'.Perm L → Q () { s with heap := h' }) : wpAny (model P w) A (setRelay a wanted) Q E s := by
  obtain ⟨o, ho, hex, hd⟩ := R.ob
  have hsl : es.size = L.length := by
    have q := congrArg List.length R.rows
    rwa [Array.length_toList, List.length_map] at q
  have hfits : t.fits es.size = true := by
    have h1 := R.sz
    have h2 := R.fl
    unfold SetTable.fits SetTable.fill
    rw [R.dm, Bool.and_eq_true, beq_iff_eq, decide_eq_true_eq]
    show t.place.size = es.size ∧ t.place.size + 0 ≤ t.mask
    omega
  obtain ⟨t', order, e, hp, T, em, el, ep', ed⟩ := relaid_ok t (hs := es.map (·.1)) (wanted := wanted) hw hM (by rw [Array.size_map, hsl]; omega)
  rw [Array.size_map, hsl] at hp
  obtain ⟨r1, r3⟩ := rows_by L es R.rows order.toList fun i hi => List.mem_range.mp (hp.mem_iff.mp hi)
  have r2 : (order.toList.filterMap fun i => L[i]?).Perm L := by
    have z := hp.filterMap fun i => L[i]?
    rwa [range_pick] at z
  rw [← r3] at T
  have ra : (order.filterMap (es[·]?)).toList = rowS P w (order.toList.filterMap fun i => L[i]?) := by
    first
      | (rw [Array.toList_filterMap]; exact r1)
      | simpa using r1
  generalize order.toList.filterMap (fun i => L[i]?) = L2 at r2 T ra
  have hs2 : (order.filterMap (es[·]?)).size = es.size := by
    have z := congrArg List.length ra
    rw [Array.length_toList, List.length_map, r2.length_eq] at z
    rw [z, hsl]
  rw [setRelay_eq]
  refine wpAny_bind (wpAny_setState_of ho hd hfits ?_)
  dsimp only
  refine wp_if_neg (by rw [sizeLine_eq]; omega) ?_
  try refine wpAny_bind (wpAny_pure ?_)
  rw [e]
  dsimp only
  refine wpAny_bind ?_
  refine wp_if_neg (by rw [hs2]; simp) ?_
  try refine wpAny_bind (wpAny_pure ?_)
  refine wpAny_pure ?_
  dsimp only
  refine wpAny_storeSet_of ho hd ?_ (by rw [hs2, hsl, sizeLine_eq]; have := R.few; omega)
  have sb : Heap.SameBut a s.heap (s.heap.update a (Obj.putSet (order.filterMap (es[·]?)) t')) := Heap.SameBut.update ..
  refine hQ _ L2 _ (ep + 1) t' sb ⟨⟨_, store_at ho hd, ⟨hex.1, hex.2.1, hex.2.2⟩, rfl⟩, ra, T, (r2.map (·.2)).nodup_iff.mpr R.nd, fun p hpm => isS_but (R.tup p (r2.mem_iff.mp hpm)) ho hd sb, by rw [el]; exact R.led, ?_, by rw [r2.length_eq]; exact R.few⟩ r2
  rw [r2.length_eq, em]
  exact hn
theorem tab_plain {t : SetTable} {hs : List Int} (T : TabOk t hs) (c : Bool) : TabOk { t with plain := c } hs := ⟨T.ris, T.dm, T.sz, T.mok, T.bd, T.reach⟩
/-- adding -/
theorem add_str (R : SR P w s.heap a L es ep t) {x : Addr} {k : List Str} (hx : IsS P w s.heap k x) (hu : A.units < cLine) (hfew : L.length + 1 < 64) {Q : Bool → Shared → Prop}
    (hQ : ∀ b h' L' es' ep' t', Heap.SameBut a s.heap h' → SR P w h' a L' es' ep' t' → (k ∈ L.map (·.2) → L' = L) → (k ∉ L.map (·.2) → L'.Perm ((x, k) :: L)) → Q b { s with heap := h' }) :
    wpAny (model P w) A (setAddHashed a (.ref x) (hS P w k)) Q E s := by
  obtain ⟨o, ho, hex, hd⟩ := R.ob
  have hsl := R.size
  have hroom := R.room
  unfold setAddHashed
  refine wpAny_holding ?_
  rw [show (100000 : Nat) = 99999 + 1 from rfl, setAddHashedIn_succ]
  refine wpAny_bind (wpAny_setState_of ho hd R.fits ?_)
  dsimp only
  refine wp_if_neg (by simp [byScan, Value.scannable]) ?_
  try refine wpAny_bind (wpAny_pure ?_)
  refine wpAny_bind (seek_str R hx hu (fun hm => ?_) fun K hm hK hb => ?_)
  · dsimp only
    exact wpAny_pure (hQ false s.heap L es ep t (Heap.SameBut.refl a s.heap) R (fun _ => rfl) fun z => absurd hm z)
  dsimp only
  refine wpAny_bind (wpAny_setState_of ho hd R.fits ?_)
  dsimp only
  obtain ⟨q1, q2, q3, q4, q5, q6, q7, q8, q9⟩ := R.tab.put hK hb
  generalize hpt : t.put (way t.mask (hS P w k) K) = pt at q1 q3 q4 q5 q6 q7 q8 q9 ⊢
  obtain ⟨t1, p⟩ := pt
  dsimp only at q1 q3 q4 q5 q6 q7 q8 q9 ⊢
  subst q1
  -- whatever is said of the hash, the table is the same but for one flag
  have main : ∀ (t2 : SetTable), TabOk t2 ((L.map fun p => hS P w p.2).take (SetTable.below t.place (way t.mask (hS P w k) K)) ++ hS P w k :: (L.map fun p => hS P w p.2).drop (SetTable.below t.place (way t.mask (hS P w k) K))) → t2.mask = t.mask → t2.led = t.led → t2.fill = L.length + 1 →
      wpAny (model P w) A (do
        storeSet a (SetTable.insertAt es (SetTable.below t.place (way t.mask (hS P w k) K)) (hS P w k, Value.ref x)) t2
        if !false && t2.tooFull then setRelay a (SetTable.grown (es.size + 1))
        return true) Q E s := by
    intro t2 T2 m2 l2 f2
    have hin : (SetTable.insertAt es (SetTable.below t.place (way t.mask (hS P w k) K)) (hS P w k, Value.ref x)).toList = rowS P w (L.take (SetTable.below t.place (way t.mask (hS P w k) K)) ++ (x, k) :: L.drop (SetTable.below t.place (way t.mask (hS P w k) K))) := by
      rw [SetTable.toList_insertAt, R.rows]
      simp only [List.map_append, List.map_cons, List.map_take, List.map_drop]
    generalize SetTable.below t.place (way t.mask (hS P w k) K) = p at q2 T2 hin ⊢
    have pm := put_perm L p (x, k)
    have hlen : (L.take p ++ (x, k) :: L.drop p).length = L.length + 1 := pm.length_eq
    have hhs : (L.map fun p => hS P w p.2).take p ++ hS P w k :: (L.map fun p => hS P w p.2).drop p = (L.take p ++ (x, k) :: L.drop p).map fun p => hS P w p.2 := by
      simp only [List.map_append, List.map_cons, List.map_take, List.map_drop]
    rw [hhs] at T2
    have nd1 : ((L.take p ++ (x, k) :: L.drop p).map (·.2)).Nodup := by
      refine (pm.map (·.2)).nodup_iff.mpr ?_
      rw [List.map_cons]
      exact List.nodup_cons.mpr ⟨hm, R.nd⟩
    have hes : (SetTable.insertAt es p (hS P w k, Value.ref x)).size = L.length + 1 := by
      have z := congrArg List.length hin
      rwa [Array.length_toList, List.length_map, hlen] at z
    generalize SetTable.insertAt es p (hS P w k, Value.ref x) = es1 at hin hes ⊢
    generalize L.take p ++ (x, k) :: L.drop p = L1 at pm hlen T2 nd1 hin
    refine wpAny_bind (wpAny_storeSet_of ho hd ?_ (by rw [hes, sizeLine_eq]; omega))
    have sb : Heap.SameBut a s.heap (s.heap.update a (Obj.putSet es1 t2)) := Heap.SameBut.update ..
    have ho1 := store_at (es' := es1) (t' := t2) ho hd
    generalize s.heap.update a (Obj.putSet es1 t2) = h1 at sb ho1 ⊢
    have tup1 : ∀ p ∈ L1, IsS P w h1 p.2 p.1 := fun p hp => by
      rcases List.mem_cons.mp (pm.mem_iff.mp hp) with e | hp
      · rw [e]; exact isS_but hx ho hd sb
      · exact isS_but (R.tup p hp) ho hd sb
    have ld1 : w.params.followText "set-order" = true ∨ t2.led = true := by rw [l2]; exact R.led
    by_cases hf : t2.tooFull = true
    · have hfull : (L.length + 1) * 5 ≥ t.mask * 3 := by
        have z := hf
        unfold SetTable.tooFull at z
        rw [decide_eq_true_eq, f2, m2] at z
        exact z
      have two : (t.mask = 7 ∧ L.length = 4) ∨ (t.mask = 31 ∧ L.length = 18) := by
        rcases R.tab.mok with e | e | e
        · left; rw [e] at hfull hroom; exact ⟨e, by omega⟩
        · right; rw [e] at hfull hroom; exact ⟨e, by omega⟩
        · exfalso; rw [e] at hfull; omega
      have R0 : SR0 P w h1 a L1 es1 (ep + 1) t2 := ⟨⟨_, ho1, ⟨hex.1, hex.2.1, hex.2.2⟩, rfl⟩, hin, by rw [T2.sz, List.length_map, hlen, hes], T2.dm, by rw [hes, m2]; rcases two with ⟨e, e2⟩ | ⟨e, e2⟩ <;> omega, nd1, tup1, ld1, by rw [hlen]; exact hfew⟩
      have go : ∀ M, SetTable.sizeAbove (SetTable.grown (L.length + 1)) - 1 = M → MaskOk M → SetTable.sizeAbove (SetTable.grown (L.length + 1)) ≤ 128 → (L.length + 1) * 5 < M * 3 →
          wpAny (model P w) A (setRelay a (SetTable.grown (L.length + 1))) (fun _ s' => wpAny (model P w) A (pure true) Q E s') E { s with heap := h1 } := fun M h1' h2' h3' h4' => by
        refine relay_str (s := { s with heap := h1 }) R0 h1' h2' h3' (by rw [hlen]; exact h4') fun h2 L2 es2 ep2 t3 sb2 R2 pm2 => ?_
        exact wpAny_pure (hQ true h2 L2 es2 ep2 t3 (sb.trans sb2) R2 (fun z => absurd z hm) fun _ => pm2.trans pm)
      have run : wpAny (model P w) A (setRelay a (SetTable.grown (es.size + 1))) (fun _ s' => wpAny (model P w) A (pure true) Q E s') E { s with heap := h1 } := by
        rw [hsl]
        rcases two with ⟨_, e2⟩ | ⟨_, e2⟩
        · exact go 31 (by rw [e2, size_20]) (.inr (.inl rfl)) (by rw [e2, size_20]; decide) (by omega)
        · exact go 127 (by rw [e2, size_76]) (.inr (.inr rfl)) (by rw [e2, size_76]; decide) (by omega)
      simp only [hf, Bool.not_false, Bool.and_true, if_true]
      first
        | exact wpAny_bind run
        | exact run
    · have hf' : t2.tooFull = false := by simpa using hf
      have fin : Q true { s with heap := h1 } := by
        refine hQ true h1 L1 es1 (ep + 1) t2 sb ⟨⟨_, ho1, ⟨hex.1, hex.2.1, hex.2.2⟩, rfl⟩, hin, T2, nd1, tup1, ld1, ?_, by rw [hlen]; exact hfew⟩ (fun z => absurd z hm) fun _ => pm
        have z := hf
        unfold SetTable.tooFull at z
        rw [decide_eq_true_eq, f2] at z
        rw [hlen]
        omega
      simp only [hf', Bool.not_false, Bool.and_false, Bool.false_eq_true, if_false]
      first
        | exact wpAny_pure fin
        | exact wpAny_bind (wpAny_pure (wpAny_pure fin))
  rw [List.length_map] at q9
  by_cases hp : t1.plain = true
  · first
      | (refine wpAny_bind ?_; refine wp_if_pos hp ?_; refine byv_tup hx fun c => ?_)
      | refine wp_if_pos hp (wpAny_bind (byv_tup hx fun c => ?_))
    cases c
    · exact main { t1 with plain := false } (tab_plain q3 false) q4 q5 q9
    · exact main t1 q3 q4 q5 q9
  · first
      | (refine wpAny_bind ?_; refine wp_if_neg hp ?_; refine wpAny_pure ?_)
      | refine wp_if_neg hp ?_
    exact main t1 q3 q4 q5 q9
end
end Jt

set_option Elab.async false
set_option linter.all false
set_option maxRecDepth 100000
set_option maxHeartbeats 8000000
/-! set(xs) of tuples of texts, len of it, sorted of it. -/
namespace Jt
open PySem PySem.Spec PyProof.Rows L2 PySem.W

section
variable {P : Program} {w : World} {A : Around} {E : Value → Shared → Prop} {s : Shared}
theorem SR.keep {h h' : Heap} {a : Addr} {L : List (Addr × List Str)} {es : Array (Int × Value)} {ep : Nat} {t : SetTable} (R : SR P w h a L es ep t) (ha : ∀ o, h.get? a = some o → h'.get? a = some o) (ht : ∀ p ∈ L, IsS P w h' p.2 p.1) : SR P w h' a L es ep t := by
  obtain ⟨o, ho, r⟩ := R.ob
  exact ⟨⟨o, ha o ho, r⟩, R.rows, R.tab, R.nd, ht, R.led, R.room, R.few⟩
/-- the set object that set.__new__ makes -/
abbrev newSet (w : World) : Obj := { cls := .type "set", dict := none, data := .set #[] 0 (.fresh 0 0 (!w.params.followText "set-order")) }
theorem sr_fresh {h : Heap} {a : Addr} (ho : h.get? a = some (newSet w)) : SR P w h a [] #[] 0 (.fresh 0 0 (!w.params.followText "set-order")) where
  ob := ⟨_, ho, ⟨rfl, rfl, rfl⟩, rfl⟩
  rows := rfl
  tab := ⟨List.Pairwise.nil, rfl, rfl, .inl rfl, fun x hx => (by cases hx), fun i h j hi => (by simp at hi)⟩
  nd := List.nodup_nil
  tup := fun p hp => (by cases hp)
  led := by
    show _ ∨ (!w.params.followText "set-order") = true
    cases w.params.followText "set-order"
    · exact .inr rfl
    · exact .inl rfl
  room := by
    show 0 * 5 < 7 * 3
    decide
  few := by
    show 0 < 64
    decide
/-- what the set has from the first i of ks -/
structure Gt (ks : List (Addr × List Str)) (i : Nat) (L : List (Addr × List Str)) : Prop where
  sub : ∀ p ∈ L, p ∈ ks.take i
  all : ∀ p ∈ ks.take i, p.2 ∈ L.map (·.2)
  len : L.length ≤ i
theorem Gt.zero (ks : List (Addr × List Str)) : Gt ks 0 [] := ⟨fun p h => (by cases h), fun p h => (by simp at h), Nat.le_refl _⟩
theorem Gt.same {ks L : List (Addr × List Str)} {i : Nat} {x : Addr × List Str} (g : Gt ks i L) (h : ks[i]? = some x) (hm : x.2 ∈ L.map (·.2)) : Gt ks (i + 1) L where
  sub := fun p hp => by rw [List.take_add_one]; exact List.mem_append_left _ (g.sub p hp)
  all := fun p hp => by
    rw [List.take_add_one, h, Option.toList_some, List.mem_append, List.mem_singleton] at hp
    rcases hp with z | z
    · exact g.all p z
    · rw [z]; exact hm
  len := Nat.le_succ_of_le g.len
theorem Gt.more {ks L L' : List (Addr × List Str)} {i : Nat} {x : Addr × List Str} (g : Gt ks i L) (h : ks[i]? = some x) (pm : L'.Perm (x :: L)) : Gt ks (i + 1) L' where
  sub := fun p hp => by
    rw [List.take_add_one, h, Option.toList_some, List.mem_append, List.mem_singleton]
    rcases List.mem_cons.mp (pm.mem_iff.mp hp) with z | z
    · exact .inr z
    · exact .inl (g.sub p z)
  all := fun p hp => by
    rw [List.take_add_one, h, Option.toList_some, List.mem_append, List.mem_singleton] at hp
    rw [(pm.map (·.2)).mem_iff, List.map_cons, List.mem_cons]
    rcases hp with z | z
    · exact .inr (g.all p z)
    · rw [z]; exact .inl rfl
  len := by rw [pm.length_eq, List.length_cons]; exact Nat.succ_le_succ g.len
/-- set.update's loop -/
theorem set_update_strs {I : Addr} {fp wr : List Addr} {G : Array GenState → Array GenState → Prop} {n : Nat} {Pv : Nat → Value → Prop} {St : Nat → Shared → Prop} {R : Result → Shared → Prop}
    (W : WalksS P w A.in1 I fp wr G n Pv St) (S : Addr) (hSf : S ∉ fp) (ks : List (Addr × List Str)) (hn : n = ks.length) (hfew : ks.length < 64) (hval : ∀ i v, Pv i v → ∃ p, ks[i]? = some p ∧ v = .ref p.1)
    (h0 : Heap) (hk : ∀ p ∈ ks, IsS P w h0 p.2 p.1) (hS0 : h0.get? S = none) (hw0 : ∀ b ∈ wr, h0.get? b = none) (hu : A.in1.units < cLine) :
    ∀ (k i : Nat) (s : Shared), n - i = k → i ≤ n → St i s → (∀ b o, h0.get? b = some o → s.heap.get? b = some o) → (∃ L es ep t, SR P w s.heap S L es ep t ∧ Gt ks i L) →
      (∀ s' L es ep t, Moved (S :: wr) G s s' → SR P w s'.heap S L es ep t → Gt ks n L → (∀ b o, h0.get? b = some o → s'.heap.get? b = some o) → R (.ok (.ret .none)) s') →
      codeAny (model P w) A (.builtin "set.update.loop" ⟨[.ref S, .ref I], []⟩) R s := by
  have hSw : S ∉ wr := fun h => hSf (W.sub _ h)
  have hsub : ∀ b ∈ wr, b ∈ S :: wr := fun b hb => List.mem_cons_of_mem _ hb
  have keepM : ∀ {s s' : Shared}, Moved wr G s s' → (∀ b o, h0.get? b = some o → s.heap.get? b = some o) → ∀ b o, h0.get? b = some o → s'.heap.get? b = some o := fun hm hkp b o e =>
    hm.heap b o (fun hb => by rw [hw0 b hb] at e; cases e) (hkp b o e)
  intro k
  induction k with
  | zero =>
    intro i s hk' hi hst hkp ⟨L, es, ep, t, hS, g⟩ hR
    have hin : i = n := by omega
    subst hin
    refine codeAny_builtin F.entry_set_update_loop ?_
    rw [Around.under_plainId F.plain_set_update_loop _]
    show wpAny _ A.in1 (pyNext (.ref I) >>= _) _ _ s
    refine wpAny_bind (W.done s _ _ hst fun s' hm => ?_)
    show wpAny _ A.in1 (ret Value.none) _ _ s'
    have hkp' := keepM hm hkp
    have sub : ∀ p ∈ L, p ∈ ks := fun p hp => List.mem_of_mem_take (g.sub p hp)
    exact wpAny_pure (hR s' L es ep t (hm.mono hsub) (hS.keep (fun o e => hm.heap S o hSw e) fun p hp => isS_keep (hk p (sub p hp)) hkp') g hkp')
  | succ k ih =>
    intro i s hk' hi hst hkp ⟨L, es, ep, t, hS, g⟩ hR
    have hlt : i < n := by omega
    refine codeAny_builtin F.entry_set_update_loop ?_
    rw [Around.under_plainId F.plain_set_update_loop _]
    show wpAny _ A.in1 (pyNext (.ref I) >>= _) _ _ s
    refine wpAny_bind (W.item i s _ _ hlt hst fun v s' hP hst' hm => ?_)
    obtain ⟨p, hp, rfl⟩ := hval i v hP
    have hkp' := keepM hm hkp
    have sub : ∀ p ∈ L, p ∈ ks := fun p hp => List.mem_of_mem_take (g.sub p hp)
    have hS' : SR P w s'.heap S L es ep t := hS.keep (fun o e => hm.heap S o hSw e) fun q hq => isS_keep (hk q (sub q hq)) hkp'
    have hx : IsS P w s'.heap p.2 p.1 := isS_keep (hk p (List.mem_of_getElem? hp)) hkp'
    show wpAny _ A.in1 (holding [Value.ref p.1] (setAdd S (.ref p.1)) >>= _) _ _ s'
    refine wpAny_bind (wpAny_holding ?_)
    unfold setAdd
    refine wpAny_holding ?_
    refine wpAny_bind (wpAny_pyHash_tuple hu hx ?_)
    refine add_str (s := { s' with toks := s'.toks + (p.2.length + 1) }) hS' hx hu (by have := g.len; omega) fun b h' L' es' ep' t' hsb hS2 c1 c2 => ?_
    have g' : Gt ks (i + 1) L' := by
      rcases Classical.em (p.2 ∈ L.map (·.2)) with c | c
      · rw [c1 c]; exact g.same hp c
      · exact g.more hp (c2 c)
    have hkp2 : ∀ b o, h0.get? b = some o → h'.get? b = some o := fun b o e => (hsb.2 b (fun z => by rw [z, hS0] at e; cases e)).trans (hkp' b o e)
    refine wpAny_pure ⟨plainId_quiet F.plain_set_update_loop _, ih (i + 1) _ (by omega) hlt (W.frame _ s' _ _ hst' (Nat.le_add_right _ _) fun b hb o e => ?_) hkp2 ⟨L', es', ep', t', hS2, g'⟩ fun s'' L2 es2 ep2 t2 hm'' hS'' g'' hkp'' => ?_⟩
    · rw [hsb.2 b (fun h : b = S => hSf (by rw [← h]; exact hb))]; exact e
    · refine hR s'' L2 es2 ep2 t2 (Moved.trans W.gtrans ((hm.mono hsub).then_heap (Nat.le_add_right _ _) fun b o hb e => ?_) hm'') hS'' g'' hkp''
      rw [hsb.2 b (fun h : b = S => hb (by rw [h]; exact List.mem_cons_self))]; exact e

/-- set(xs) of a list -/
theorem call_setS_list {l : Addr} {items : Array Value} (ks : List (Addr × List Str)) {Q : Value → Shared → Prop} (hh : A.handled = none) (hl : s.heap.IsList l items) (hit : items.toList = ks.map fun p => Value.ref p.1)
    (hk : ∀ p ∈ ks, IsS P w s.heap p.2 p.1) (hfew : ks.length < 64) (hu : A.units + 3 < cLine)
    (h : ∀ (h' : Heap) (tk : Nat) L es ep t, SR P w h' s.heap.objs.size L es ep t → Gt ks ks.length L → (∀ b o, s.heap.get? b = some o → h'.get? b = some o) → Q (.ref s.heap.objs.size) { s with heap := h', toks := tk }) :
    wpAny (model P w) A (call (.type "set") [.ref l]) Q E s := by
  have hisz : items.size = ks.length := by
    have q := congrArg List.length hit
    rw [Array.length_toList, List.length_map] at q
    exact q
  obtain ⟨c, tl, hmro⟩ := F.called_set.mro
  have hmade := F.called_set.made
  have hsub := F.called_set.sub
  refine wpAny_call (codeAny_of_tree ?_)
  show wpAny _ _ (callAny (.type "set") _) _ _ _
  refine wpAny_pure ⟨Code.quiet_builtin _ (by decide +kernel), codeAny_builtin F.entry_type_call ?_⟩
  rw [Around.under_plain (weight_type_call_type "set" [.ref l] []) rfl]
  have h1 := F.called_set.notType
  have h2 := F.called_set.canCreate
  have hct := F.typeCall_set_1 (.ref l)
  repeat (any_goals (first | assumption | wp_step))

  refine codeAny_mono (code_set_led1 (.ref l) (E := E) (Q₁ := fun obj s₁ => obj = .ref s.heap.objs.size ∧ s₁ = { s with heap := s.heap.push (newSet w) }) ⟨rfl, rfl⟩) fun r s₁ hr => ?_
  cases r with
  | error e => exact hr
  | ok fl =>
    cases fl with
    | ret obj =>
      obtain ⟨rfl, rfl⟩ := hr
      have hS : (s.heap.push (newSet w)).get? s.heap.objs.size = some (newSet w) := Heap.get?_push_size _ rfl
      have hT : Shared.TypeIs { s with heap := s.heap.push (newSet w) } (.ref s.heap.objs.size) "set" := ⟨_, hS, rfl⟩
      have hli := F.called_set.init.lookup
      have hbi := F.called_set.init.bind (.ref s.heap.objs.size)
      repeat (any_goals (first | assumption | wp_step))

      refine codeAny_mono (codeAny_call_builtin (R := wants (fun r s₂ => r = .none ∧ ∃ h' tk L es ep t, s₂ = { s with heap := h', toks := tk } ∧ SR P w h' s.heap.objs.size L es ep t ∧ Gt ks ks.length L ∧
          (∀ b o, s.heap.get? b = some o → h'.get? b = some o)) E) F.called_set.init.plain F.entry_set_init (check_set_init_1 hT ?_)) fun r₂ s₂ hr₂ => ?_
      · obtain ⟨ol, hol, hcl, nl, hdl⟩ := hl
        obtain ⟨ocls, odict, odata, oslots⟩ := ol
        simp only at hcl hdl
        subst hcl; subst hdl
        have hol' : (s.heap.push (newSet w)).get? l = some { cls := .type "list", dict := odict, data := .seq items nl, slots := oslots } := Heap.get?_push_of_some _ hol
        have hsls := F.sub_list_set
        have hslf := F.sub_list_frozenset
        have hne : (Value.type "list" == Value.type "dict") = false := by decide
        have hl1 : (s.heap.push (newSet w)).IsList l items := ⟨_, hol', rfl, nl, rfl⟩
        unfold Builtin.«set.__init__» noKeywords Builtin.Frozenset.updateFrom
        generalize hPI : pyIter = PI
        wp_walk
        subst hPI

        refine wpAny_pyIter_list hl1 ?_
        refine wpAny_bind (wpAny_runValue ?_)
        have hlS : l < s.heap.objs.size := Heap.lt_size hol
        have hh3 : A.in1.in1.in1.handled = none := by simp [hh]
        have hz1 : (s.heap.push (newSet w)).objs.size = s.heap.objs.size + 1 := Heap.size_push ..
        have hneI : l ≠ (s.heap.push (newSet w)).objs.size := by
          rw [Heap.size_push]; exact Nat.ne_of_lt (Nat.lt_succ_of_lt hlS)
        have hSf : s.heap.objs.size ∉ [(s.heap.push (newSet w)).objs.size, l] := by
          rw [Heap.size_push]; simp only [List.mem_cons, List.mem_singleton, List.not_mem_nil, or_false, not_or]
          exact ⟨Nat.ne_of_lt (Nat.lt_succ_self _), Nat.ne_of_gt hlS⟩
        have hval : ∀ (i : Nat) (v : Value), items[i]? = some v → ∃ p, ks[i]? = some p ∧ v = .ref p.1 := fun i v hv => by
          have q : items.toList[i]? = some v := by rw [Array.getElem?_toList]; exact hv
          rw [hit, List.getElem?_map] at q
          cases hq : ks[i]? with
          | none => rw [hq] at q; cases q
          | some p =>
            rw [hq] at q
            exact ⟨p, rfl, (Option.some.inj q).symm⟩
        have none_of : ∀ b, s.heap.objs.size ≤ b → s.heap.get? b = none := fun b hb => by
          cases q : s.heap.get? b with
          | none => rfl
          | some o => exact absurd (Nat.lt_of_lt_of_le (Heap.lt_size q) hb) (Nat.lt_irrefl _)
        refine set_update_strs ((Walks.list hh3 _ l hneI items).toS) s.heap.objs.size
          hSf ks hisz hfew hval s.heap hk (none_of _ (Nat.le_refl _)) (fun b hb => none_of b (by
            rw [List.mem_singleton.mp hb, Heap.size_push]
            exact Nat.le_succ _)) hu (items.size - 0) 0 _ (by omega) (Nat.zero_le _)
          ⟨⟨_, Heap.get?_push_size _ rfl, rfl, rfl⟩, (hl1.push _)⟩ (fun b o e => Heap.get?_push_of_some _ (Heap.get?_push_of_some _ e)) ?hS0 ?hR
        case hS0 =>
          have hget : ((s.heap.push (newSet w)).push { cls := .type "list_iterator", data := .fields #[.ref l, .int 0 0] }).get? s.heap.objs.size
              = some (newSet w) := Heap.get?_push_of_some _ hS
          exact ⟨[], #[], 0, _, sr_fresh hget, Gt.zero ks⟩
        case hR =>
          intro s' L es ep t hm hS' g' hkp
          obtain ⟨h', g2, d', tk', os'⟩ := s'
          have eg : g2 = s.gens := hm.gens
          have ed : d' = s.drawn := hm.drawn
          have eo : os' = s.os := hm.os
          subst eg; subst ed; subst eo
          show wpAny _ _ _ _ _ _
          refine wpAny_pure ?_
          show wpAny _ _ (ret Value.none) _ _ _
          rw [hisz] at g'
          exact wpAny_pure ⟨rfl, h', tk', L, es, ep, t, rfl, hS', g', hkp⟩

      · cases r₂ with
        | error e => exact hr₂
        | ok fl₂ =>
          cases fl₂ with
          | ret r =>
            obtain ⟨rfl, h', tk, L, es, ep, t, rfl, hS', g', hk'⟩ := hr₂
            repeat (any_goals (first | assumption | wp_step))
            exact h _ _ _ _ _ _ hS' g' hk'
          | _ => exact hr₂.elim
    | _ => exact hr.elim

/-- set(xs) of a tuple -/
theorem call_setS_tuple {l : Addr} {items : Array Value} (ks : List (Addr × List Str)) {Q : Value → Shared → Prop} (hh : A.handled = none) (hl : s.heap.IsTuple l items) (hit : items.toList = ks.map fun p => Value.ref p.1)
    (hk : ∀ p ∈ ks, IsS P w s.heap p.2 p.1) (hfew : ks.length < 64) (hu : A.units + 3 < cLine)
    (h : ∀ (h' : Heap) (tk : Nat) L es ep t, SR P w h' s.heap.objs.size L es ep t → Gt ks ks.length L → (∀ b o, s.heap.get? b = some o → h'.get? b = some o) → Q (.ref s.heap.objs.size) { s with heap := h', toks := tk }) :
    wpAny (model P w) A (call (.type "set") [.ref l]) Q E s := by
  have hisz : items.size = ks.length := by
    have q := congrArg List.length hit
    rw [Array.length_toList, List.length_map] at q
    exact q
  obtain ⟨c, tl, hmro⟩ := F.called_set.mro
  have hmade := F.called_set.made
  have hsub := F.called_set.sub
  refine wpAny_call (codeAny_of_tree ?_)
  show wpAny _ _ (callAny (.type "set") _) _ _ _
  refine wpAny_pure ⟨Code.quiet_builtin _ (by decide +kernel), codeAny_builtin F.entry_type_call ?_⟩
  rw [Around.under_plain (weight_type_call_type "set" [.ref l] []) rfl]
  have h1 := F.called_set.notType
  have h2 := F.called_set.canCreate
  have hct := F.typeCall_set_1 (.ref l)
  repeat (any_goals (first | assumption | wp_step))

  refine codeAny_mono (code_set_led1 (.ref l) (E := E) (Q₁ := fun obj s₁ => obj = .ref s.heap.objs.size ∧ s₁ = { s with heap := s.heap.push (newSet w) }) ⟨rfl, rfl⟩) fun r s₁ hr => ?_
  cases r with
  | error e => exact hr
  | ok fl =>
    cases fl with
    | ret obj =>
      obtain ⟨rfl, rfl⟩ := hr
      have hS : (s.heap.push (newSet w)).get? s.heap.objs.size = some (newSet w) := Heap.get?_push_size _ rfl
      have hT : Shared.TypeIs { s with heap := s.heap.push (newSet w) } (.ref s.heap.objs.size) "set" := ⟨_, hS, rfl⟩
      have hli := F.called_set.init.lookup
      have hbi := F.called_set.init.bind (.ref s.heap.objs.size)
      repeat (any_goals (first | assumption | wp_step))

      refine codeAny_mono (codeAny_call_builtin (R := wants (fun r s₂ => r = .none ∧ ∃ h' tk L es ep t, s₂ = { s with heap := h', toks := tk } ∧ SR P w h' s.heap.objs.size L es ep t ∧ Gt ks ks.length L ∧
          (∀ b o, s.heap.get? b = some o → h'.get? b = some o)) E) F.called_set.init.plain F.entry_set_init (check_set_init_1 hT ?_)) fun r₂ s₂ hr₂ => ?_
      · obtain ⟨ol, hol, hcl, nl, hdl⟩ := hl
        obtain ⟨ocls, odict, odata, oslots⟩ := ol
        simp only at hcl hdl
        subst hcl; subst hdl
        have hol' : (s.heap.push (newSet w)).get? l = some { cls := .type "tuple", dict := odict, data := .seq items nl, slots := oslots } := Heap.get?_push_of_some _ hol
        have hsls := F.sub_tuple_set
        have hslf := F.sub_tuple_frozenset
        have hne : (Value.type "tuple" == Value.type "dict") = false := by decide
        have hl1 : (s.heap.push (newSet w)).IsTuple l items := ⟨_, hol', rfl, nl, rfl⟩
        unfold Builtin.«set.__init__» noKeywords Builtin.Frozenset.updateFrom
        generalize hPI : pyIter = PI
        wp_walk
        subst hPI

        refine wpAny_pyIter_tuple hl1 ?_
        refine wpAny_bind (wpAny_runValue ?_)
        have hlS : l < s.heap.objs.size := Heap.lt_size hol
        have hh3 : A.in1.in1.in1.handled = none := by simp [hh]
        have hz1 : (s.heap.push (newSet w)).objs.size = s.heap.objs.size + 1 := Heap.size_push ..
        have hneI : l ≠ (s.heap.push (newSet w)).objs.size := by
          rw [Heap.size_push]; exact Nat.ne_of_lt (Nat.lt_succ_of_lt hlS)
        have hSf : s.heap.objs.size ∉ [(s.heap.push (newSet w)).objs.size, l] := by
          rw [Heap.size_push]; simp only [List.mem_cons, List.mem_singleton, List.not_mem_nil, or_false, not_or]
          exact ⟨Nat.ne_of_lt (Nat.lt_succ_self _), Nat.ne_of_gt hlS⟩
        have hval : ∀ (i : Nat) (v : Value), items[i]? = some v → ∃ p, ks[i]? = some p ∧ v = .ref p.1 := fun i v hv => by
          have q : items.toList[i]? = some v := by rw [Array.getElem?_toList]; exact hv
          rw [hit, List.getElem?_map] at q
          cases hq : ks[i]? with
          | none => rw [hq] at q; cases q
          | some p =>
            rw [hq] at q
            exact ⟨p, rfl, (Option.some.inj q).symm⟩
        have none_of : ∀ b, s.heap.objs.size ≤ b → s.heap.get? b = none := fun b hb => by
          cases q : s.heap.get? b with
          | none => rfl
          | some o => exact absurd (Nat.lt_of_lt_of_le (Heap.lt_size q) hb) (Nat.lt_irrefl _)
        refine set_update_strs ((Walks.tuple hh3 _ l hneI items).toS) s.heap.objs.size
          hSf ks hisz hfew hval s.heap hk (none_of _ (Nat.le_refl _)) (fun b hb => none_of b (by
            rw [List.mem_singleton.mp hb, Heap.size_push]
            exact Nat.le_succ _)) hu (items.size - 0) 0 _ (by omega) (Nat.zero_le _)
          ⟨⟨_, Heap.get?_push_size _ rfl, rfl, rfl⟩, (hl1.push _)⟩ (fun b o e => Heap.get?_push_of_some _ (Heap.get?_push_of_some _ e)) ?hS0 ?hR
        case hS0 =>
          have hget : ((s.heap.push (newSet w)).push { cls := .type "tuple_iterator", data := .fields #[.ref l, .int 0 0] }).get? s.heap.objs.size
              = some (newSet w) := Heap.get?_push_of_some _ hS
          exact ⟨[], #[], 0, _, sr_fresh hget, Gt.zero ks⟩
        case hR =>
          intro s' L es ep t hm hS' g' hkp
          obtain ⟨h', g2, d', tk', os'⟩ := s'
          have eg : g2 = s.gens := hm.gens
          have ed : d' = s.drawn := hm.drawn
          have eo : os' = s.os := hm.os
          subst eg; subst ed; subst eo
          show wpAny _ _ _ _ _ _
          refine wpAny_pure ?_
          show wpAny _ _ (ret Value.none) _ _ _
          rw [hisz] at g'
          exact wpAny_pure ⟨rfl, h', tk', L, es, ep, t, rfl, hS', g', hkp⟩

      · cases r₂ with
        | error e => exact hr₂
        | ok fl₂ =>
          cases fl₂ with
          | ret r =>
            obtain ⟨rfl, h', tk, L, es, ep, t, rfl, hS', g', hk'⟩ := hr₂
            repeat (any_goals (first | assumption | wp_step))
            exact h _ _ _ _ _ _ hS' g' hk'
          | _ => exact hr₂.elim
    | _ => exact hr.elim

end

/-! ### the set as an object of ours -/
/-- distinct ones -/
def dd : List (List Str) → List (List Str)
  | [] => []
  | x :: xs => if x ∈ xs then dd xs else x :: dd xs
theorem mem_dd {y : List Str} : ∀ {xs : List (List Str)}, y ∈ dd xs ↔ y ∈ xs
  | [] => Iff.rfl
  | x :: xs => by
    unfold dd
    by_cases h : x ∈ xs
    · rw [if_pos h, mem_dd, List.mem_cons]
      exact ⟨.inr, fun z => z.elim (fun e => by rw [e]; exact h) id⟩
    · rw [if_neg h, List.mem_cons, List.mem_cons, mem_dd]
theorem nodup_dd : ∀ xs : List (List Str), (dd xs).Nodup
  | [] => List.nodup_nil
  | x :: xs => by
    unfold dd
    by_cases h : x ∈ xs
    · rw [if_pos h]; exact nodup_dd xs
    · rw [if_neg h]; exact List.nodup_cons.mpr ⟨fun z => h (mem_dd.mp z), nodup_dd xs⟩
theorem dd_len : ∀ xs : List (List Str), (dd xs).length ≤ xs.length
  | [] => Nat.le_refl _
  | x :: xs => by
    unfold dd
    have := dd_len xs
    by_cases h : x ∈ xs
    · rw [if_pos h]; exact Nat.le_succ_of_le this
    · rw [if_neg h]; exact Nat.succ_le_succ this
theorem dd_nodup : ∀ xs : List (List Str), (dd xs).length = xs.length ↔ xs.Nodup
  | [] => ⟨fun _ => List.nodup_nil, fun _ => rfl⟩
  | x :: xs => by
    unfold dd
    have h1 := dd_len xs
    by_cases h : x ∈ xs
    · rw [if_pos h, List.nodup_cons]
      exact ⟨fun e => by rw [List.length_cons] at e; omega, fun e => absurd h e.1⟩
    · rw [if_neg h, List.nodup_cons, List.length_cons, List.length_cons, Nat.add_right_cancel_iff, dd_nodup xs]
      exact ⟨fun e => ⟨h, e⟩, fun e => e.2⟩
abbrev lotD (k : List Str) : PyData := .tuple (k.map .str)
structure S0 (P : Program) (w : World) (h : Heap) (a : Addr) (L : List (Addr × List Str)) : Prop where
  ex : ∃ (es : Array (Int × Value)) (ep : Nat) (t : SetTable), (∃ o, h.get? a = some o ∧ o.ExactSet ∧ o.data = .set es ep t) ∧ es.toList = rowS P w L ∧ TabOk t (L.map fun p => hS P w p.2) ∧ (L.map (·.2)).Nodup ∧
    (w.params.followText "set-order" = true ∨ t.led = true) ∧ L.length * 5 < t.mask * 3 ∧ L.length < 64
def SetSO (P : Program) (w : World) (a : Addr) (L : List (Addr × List Str)) : HO := .ext fun h => S0 P w h a L
theorem SR.s0 {P : Program} {w : World} {h : Heap} {a : Addr} {L : List (Addr × List Str)} {es : Array (Int × Value)} {ep : Nat} {t : SetTable} (R : SR P w h a L es ep t) : S0 P w h a L :=
  ⟨es, ep, t, R.ob, R.rows, R.tab, R.nd, R.led, R.room, R.few⟩
theorem S0.full {P : Program} {w : World} {h : Heap} {a : Addr} {L : List (Addr × List Str)} (R : S0 P w h a L) (ht : ∀ p ∈ L, IsS P w h p.2 p.1) : ∃ es ep t, SR P w h a L es ep t := by
  obtain ⟨es, ep, t, h1, h2, h3, h4, h5, h6, h7⟩ := R.ex
  exact ⟨es, ep, t, h1, h2, h3, h4, ht, h5, h6, h7⟩
theorem setSO_new {P : Program} {w : World} {H : Hp} {h : Heap} {a : Addr} {L : List (Addr × List Str)} (R : S0 P w h a L) : ObjOk P w H h a (SetSO P w a L) := by
  have ⟨es, ep, t, ⟨o, ho, r⟩, q⟩ := R.ex
  refine ⟨R, ⟨o, ho⟩, fun h1 h2 p k => ?_⟩
  have ⟨es', ep', t', ⟨o', ho', r'⟩, q'⟩ := S0.ex p
  exact ⟨es', ep', t', ⟨o', k o' ho', r'⟩, q'⟩
theorem vals_strs {P : Program} {w : World} : ∀ {k : List Str} {us : List Value}, Vals (k.map V.str) us → ItemsAre (PySem.strKind P w) k us
  | [], _, .nil => .nil
  | n :: k, _, .cons r t => by
    obtain ⟨tk, rfl⟩ := r
    exact .cons (strKind_is _ _ _ _) (vals_strs t)
end Jt

set_option Elab.async false
set_option linter.all false
set_option maxRecDepth 100000
set_option maxHeartbeats 4000000
/-! Names in order; lots of names; set(xs), len(set(xs)), sorted(set(xs)) as rules. -/
namespace Jt
open PySem PySem.Spec PyProof.Rows L2 PySem.W

/-! ### names in order -/
def Mono (nu : Nat → Str) : Prop := ∀ i j, i < j → (nu i).cps.toList < (nu j).cps.toList
section
variable {nu : Nat → Str}
theorem Mono.lt (m : Mono nu) (i j : Nat) : decide ((nu i).cps.toList < (nu j).cps.toList) = decide (i < j) := by
  by_cases h : i < j
  · rw [decide_eq_true h, decide_eq_true (m i j h)]
  · rw [decide_eq_false h]
    refine decide_eq_false fun q => ?_
    rcases Nat.lt_or_eq_of_le (Nat.le_of_not_lt h) with z | z
    · exact List.lt_irrefl _ (List.lt_trans q (m j i z))
    · rw [z] at q; exact List.lt_irrefl _ q
theorem Mono.inj (m : Mono nu) {i j : Nat} (h : nu i = nu j) : i = j := by
  rcases Nat.lt_trichotomy i j with z | z | z
  · have := m i j z; rw [h] at this; exact absurd this (List.lt_irrefl _)
  · exact z
  · have := m j i z; rw [h] at this; exact absurd this (List.lt_irrefl _)
theorem Mono.beq (m : Mono nu) (i j : Nat) : (nu i == nu j) = (i == j) := by
  rw [Bool.eq_iff_iff, beq_iff_eq, beq_iff_eq]
  exact ⟨m.inj, congrArg nu⟩
theorem Mono.dlt (m : Mono nu) (i j : Nat) : dataLt (.str (nu i)) (.str (nu j)) = decide (i < j) := by
  rw [dataLt_str]; exact m.lt i j
theorem Mono.mapInj (m : Mono nu) : ∀ {a b : List Nat}, a.map nu = b.map nu → a = b
  | [], [], _ => rfl
  | [], _ :: _, h => by simp at h
  | _ :: _, [], h => by simp at h
  | x :: a, y :: b, h => by
    rw [List.map_cons, List.map_cons] at h
    injection h with h1 h2
    rw [m.inj h1, m.mapInj h2]
abbrev lotN (nu : Nat → Str) (k : List Nat) : PyData := lotD (k.map nu)
theorem row_lots (m : Mono nu) : ∀ a b : List Nat, rowLt (a.map (fun i => PyData.str (nu i))) (b.map fun i => PyData.str (nu i)) = decide (a < b)
  | [], [] => by
    have e : rowLt [] [] = false := lex_irrefl _
    simp [e]
  | [], y :: ys => by
    have e : rowLt [] (PyData.str (nu y) :: ys.map fun i => PyData.str (nu i)) = true := by
      unfold rowLt
      rw [toks_all_cons]
      simp only [keyToksAll]
      rw [lex_diff (O := itemOrd) (by simp)]
      rfl
    simpa using e
  | x :: xs, [] => by
    have e : rowLt (PyData.str (nu x) :: xs.map fun i => PyData.str (nu i)) [] = false := by
      unfold rowLt
      rw [toks_all_cons]
      simp only [keyToksAll]
      rw [lex_diff (O := itemOrd) (by simp)]
      rfl
    simpa using e
  | x :: xs, y :: ys => by
    have e : rowLt (PyData.str (nu x) :: xs.map fun i => PyData.str (nu i)) (PyData.str (nu y) :: ys.map fun i => PyData.str (nu i)) = if x = y then rowLt (xs.map fun i => PyData.str (nu i)) (ys.map fun i => PyData.str (nu i)) else decide (x < y) := by
      unfold rowLt
      rw [dataLt_cons (by simp [alike]), m.dlt]
      simp only [PyData.eqv]
      by_cases h : x = y
      · subst h; simp
      · have h2 : nu x ≠ nu y := fun e => h (m.inj e)
        simp [h, h2]
    show rowLt (PyData.str (nu x) :: xs.map fun i => PyData.str (nu i)) (PyData.str (nu y) :: ys.map fun i => PyData.str (nu i)) = _
    rw [e]
    by_cases h : x = y
    · rw [if_pos h, row_lots m xs ys]
      simp [h, List.cons_lt_cons_iff]
    · rw [if_neg h]
      simp [h, List.cons_lt_cons_iff]
theorem dlt_lots (m : Mono nu) (a b : List Nat) : dataLt (lotN nu a) (lotN nu b) = decide (a < b) := by
  show dataLt (.tuple ((a.map nu).map .str)) (.tuple ((b.map nu).map .str)) = _
  rw [dataLt_tuple, List.map_map, List.map_map]
  exact row_lots m a b
def leL (a b : List Nat) : Bool := decide (a ≤ b)
theorem dle_lots (m : Mono nu) (a b : List Nat) : dataLe false id (lotN nu a) (lotN nu b) = leL a b := by
  show (!dataLt (lotN nu b) (lotN nu a)) = _
  rw [dlt_lots m]
  exact not_lt_str a b
theorem leL_trans (a b c : List Nat) (h1 : leL a b = true) (h2 : leL b c = true) : leL a c = true := decide_eq_true (List.le_trans (of_decide_eq_true h1) (of_decide_eq_true h2))
theorem leL_total (a b : List Nat) : (leL a b || leL b a) = true := by
  rcases List.le_total a b with h | h
  · rw [show leL a b = true from decide_eq_true h]; rfl
  · rw [show leL b a = true from decide_eq_true h, Bool.or_true]
theorem leL_anti (a b : List Nat) (h1 : leL a b = true) (h2 : leL b a = true) : a = b := List.le_antisymm (of_decide_eq_true h1) (of_decide_eq_true h2)
theorem alike_strs : ∀ xs ys : List Str, alikeAll (xs.map .str) (ys.map .str) = true
  | [], _ => by simp [alikeAll]
  | x :: xs, [] => by simp [alikeAll]
  | x :: xs, y :: ys => by simp [alikeAll, alike, alike_strs xs ys]
theorem alike_lots (a b : List Str) : alike (lotD a) (lotD b) = true := by simp [alike, alike_strs]
theorem depth_strs : ∀ xs : List Str, PyData.depthAll (xs.map .str) = 0
  | [] => by simp [PyData.depthAll]
  | x :: xs => by simp [PyData.depthAll, PyData.depth, depth_strs xs]
theorem depth_lot (a : List Str) : (lotD a).depth ≤ 50 := by simp [PyData.depth, depth_strs]
theorem allAlike_lots {β : Type} (enc : β → List Str) (bs : List β) : AllAlike (bs.map fun b => lotD (enc b)) := AllAlike.of fun b b' => alike_lots _ _
theorem sortable_lots {β : Type} (enc : β → List Str) (bs : List β) (h : ∀ b ∈ bs, enc b ≠ []) : Sortable (bs.map fun b => lotD (enc b)) := .inl fun d hd => by
  obtain ⟨b, hb, rfl⟩ := List.mem_map.mp hd
  cases e : enc b with
  | nil => exact absurd e (h b hb)
  | cons x r => exact ⟨_, _, rfl⟩
/-- lots sorted -/
theorem sort_lots (m : Mono nu) (ls : List (List Nat)) : (ls.map (lotN nu)).mergeSort (dataLe false id) = (ls.mergeSort leL).map (lotN nu) := merge_enc _ leL ls fun a _ b _ => (dle_lots m a b).symm
/-- names sorted -/
def leN (a b : Nat) : Bool := decide (a ≤ b)
theorem dle_names (m : Mono nu) (a b : Nat) : dataLe false id (.str (nu a)) (.str (nu b)) = leN a b := by
  show (!dataLt (.str (nu b)) (.str (nu a))) = decide (a ≤ b)
  rw [m.dlt]
  by_cases h : b < a
  · rw [decide_eq_true h, decide_eq_false (by omega)]; rfl
  · rw [decide_eq_false h, decide_eq_true (by omega)]; rfl
theorem sort_names (m : Mono nu) (l : List Nat) : (l.map fun i => PyData.str (nu i)).mergeSort (dataLe false id) = (l.mergeSort leN).map fun i => PyData.str (nu i) := merge_enc _ leN l fun a _ b _ => (dle_names m a b).symm
end

/-! ### the rules -/
section
variable {X : Cx} {pins : List (Addr × Obj)} {σ : L2.St} {H : Hp} {s : Shared}
abbrev TupsS (H : Hp) (ks : List (Addr × List Str)) : Prop := ∀ p ∈ ks, H p.1 = some (.tup (p.2.map .str))
theorem Inv.isS (I : Inv X pins σ H s) {b : Addr} {k : List Str} (h : H b = some (.tup (k.map .str))) : IsS X.prog X.w s.heap k b := by
  obtain ⟨its, r, ⟨o, ho, hc, n, hd⟩, _⟩ := I.tuple (SqT.of h)
  exact ⟨o, its.toArray, n, ho, hc, hd, by simpa using vals_strs r⟩
theorem valsS : ∀ {ks : List (Addr × List Str)} {us : List Value}, Vals (ks.map fun p => V.ref p.1) us → us = ks.map fun p => Value.ref p.1
  | [], _, .nil => rfl
  | p :: ks, _, .cons r t => by
    cases r
    rw [valsS t] <;> rfl
theorem valsS_of : ∀ (ks : List (Addr × List Str)), Vals (ks.map fun p => V.ref p.1) (ks.map fun p => Value.ref p.1)
  | [] => .nil
  | p :: ks => .cons rfl (valsS_of ks)
def rSetD (K : PySem.W.Frag) (P : Program) (w : World) : List V → Hp → VK → Prop := fun xs H Q => ∃ (l : Addr) (ks : List (Addr × List Str)), xs = [V.ref l] ∧ (SqL K H l (ks.map fun p => V.ref p.1) ∨ SqT K H l (ks.map fun p => V.ref p.1)) ∧ TupsS H ks ∧ ks.length < 64 ∧
  ∀ a L, H a = none → (∀ p ∈ L, p ∈ ks) → (L.map (·.2)).Nodup → (∀ p ∈ ks, p.2 ∈ L.map (·.2)) → Q (.ref a) (upd H a (SetSO P w a L))
theorem cr_setD (hc : X.calm = true) (hu : X.A.units + 64 < cLine) : CallR X (.type "set") (rSetD X.K X.prog X.w) := by
  intro pins s σ H xs us Q I r h
  obtain ⟨l, ks, rfl, hl, hk, hf, q⟩ := h
  rw [Vals.ref1 r]
  have hn : H s.heap.objs.size = none := I.hok.fresh (Nat.le_refl _)
  have fin : ∀ (h' : Heap) (tk : Nat) L es ep t, SR X.prog X.w h' s.heap.objs.size L es ep t → Gt ks ks.length L → (∀ b o, s.heap.get? b = some o → h'.get? b = some o) →
      ∃ v H', Inv X pins σ H' { s with heap := h', toks := tk } ∧ RelV v (Value.ref s.heap.objs.size) ∧ Q v H' := fun h' tk L es ep t R g k => by
    refine ⟨.ref s.heap.objs.size, upd H s.heap.objs.size (SetSO X.prog X.w s.heap.objs.size L), I.laid (t' := tk) k (Nat.le_refl _) (setSO_new R.s0), rfl, q _ L hn (fun p hp => ?_) R.nd fun p hp => ?_⟩
    · exact List.mem_of_mem_take (g.sub p hp)
    · exact g.all p (by rw [List.take_length]; exact hp)
  rcases hl with hl | hl
  · obtain ⟨its, rv, pl, hz⟩ := I.list hl
    exact call_setS_list (P := X.prog) (w := X.w) ks (I.ok.hd hc) pl.isList (by simpa using valsS rv) (fun p hp => Inv.isS I (hk p hp)) hf (by omega) fin
  · obtain ⟨its, rv, pl, hz⟩ := I.tuple hl
    exact call_setS_tuple (P := X.prog) (w := X.w) ks (I.ok.hd hc) pl (by simpa using valsS rv) (fun p hp => Inv.isS I (hk p hp)) hf (by omega) fin
/-- len of the set -/
def rLenSet (P : Program) (w : World) : List V → Hp → VK → Prop := fun xs H Q => ∃ a L, xs = [V.ref a] ∧ H a = some (SetSO P w a L) ∧ TupsS H L ∧ Q (.int L.length) H
theorem cr_lenSet : CallR X (.builtin "len") (rLenSet X.prog X.w) := by
  intro pins s σ H xs us Q I r h
  obtain ⟨a, L, rfl, ha, hk, q⟩ := h
  have R0 : S0 X.prog X.w s.heap a L := (I.hok a _ ha).1
  obtain ⟨es, ep, t, R⟩ := R0.full fun p hp => Inv.isS I (hk p hp)
  rw [Vals.ref1 r]
  obtain ⟨o, ho, hex, hd⟩ := R.ob
  have hs := R.size
  have hf := R.few
  refine call_len_set ho hex hd R.fits (by rw [hs]; omega) ⟨.int L.length, H, (I.tok _).tok _, ⟨_, by rw [hs]⟩, q⟩
/-- sorted of the set -/
def rSortSet (P : Program) (w : World) : List V → Hp → VK → Prop := fun xs H Q => ∃ (a : Addr) (L : List (Addr × List Str)), xs = [V.ref a] ∧ H a = some (SetSO P w a L) ∧ TupsS H L ∧ (∀ p ∈ L, p.2 ≠ []) ∧
  ∀ (L' : List (Addr × List Str)) ys p, L'.Perm L → H p = none → ys = ((L'.mergeSort (dataLe false fun q => lotD q.2)).map fun q => V.ref q.1) → Q (.ref p) (upd H p (.lst ys))
theorem of_eachS : ∀ {us : List Value} {ks : List (Addr × List Str)}, EachIs (fun v (q : Addr × List Str) => v = Value.ref q.1) us ks → us = ks.map fun q => Value.ref q.1
  | _, _, .nil => rfl
  | _, _, .cons e t => by rw [e, of_eachS t]; rfl
theorem eachS_of : ∀ (ks : List (Addr × List Str)), EachIs (fun v (q : Addr × List Str) => v = Value.ref q.1) (ks.map fun q => Value.ref q.1) ks
  | [] => .nil
  | q :: ks => .cons rfl (eachS_of ks)
theorem reads_strs {h : Heap} : ∀ {k : List Str} {vs : List Value}, ItemsAre (PySem.strKind X.prog X.w) k vs → ReadsAll h vs (k.map .str) []
  | [], _, .nil => .nil
  | k0 :: ks, _, .cons h1 t => by
    obtain ⟨tk, rfl⟩ := Value.isStrOf_shape h1
    exact ReadsAll.cons (as := []) (bs := []) (Reads.str _ _) (reads_strs t)
theorem perm_lift {α β : Type} (f : α → β) {l m : List β} (h : l.Perm m) : ∀ L : List α, m = L.map f → ∃ L' : List α, L'.Perm L ∧ l = L'.map f := by
  induction h with
  | nil => exact fun L e => ⟨L, .refl _, e⟩
  | @cons x l1 l2 _ ih =>
    intro L e
    cases L with
    | nil => simp at e
    | cons y t =>
      rw [List.map_cons] at e
      injection e with e1 e2
      obtain ⟨t', p, q⟩ := ih t e2
      exact ⟨y :: t', p.cons y, by rw [List.map_cons, e1, q]⟩
  | @swap x y l1 =>
    intro L e
    cases L with
    | nil => simp at e
    | cons a t =>
      cases t with
      | nil => simp at e
      | cons b t =>
        rw [List.map_cons, List.map_cons] at e
        injection e with e1 e2
        injection e2 with e2 e3
        exact ⟨b :: a :: t, .swap a b t, by rw [List.map_cons, List.map_cons, e1, e2, e3]⟩
  | trans _ _ ih1 ih2 =>
    intro L e
    obtain ⟨L1, p1, e1⟩ := ih2 L e
    obtain ⟨L2, p2, e2⟩ := ih1 L1 e1
    exact ⟨L2, p2.trans p1, e2⟩
theorem cr_sortSet (hc : X.calm = true) (hu : X.A.units + 64 < cLine) : CallR X (.builtin "sorted") (rSortSet X.prog X.w) := by
  intro pins s σ H vs us Q I r h
  obtain ⟨a, L, rfl, ha, hk, hne, q⟩ := h
  have R0 : S0 X.prog X.w s.heap a L := (I.hok a _ ha).1
  have hT : ∀ p ∈ L, IsS X.prog X.w s.heap p.2 p.1 := fun p hp => Inv.isS I (hk p hp)
  obtain ⟨es, ep, t, R⟩ := R0.full hT
  rw [Vals.ref1 r]
  obtain ⟨o, ho, hex, hd⟩ := R.ob
  have hsz := R.size
  have hfew := R.few
  refine Calls.call_function_entry kind_sorted plain_sorted entry_sorted (args_sorted1 _) ?_
  unfold Builtin.«sorted»
  refine wpAny_bind (m := checkCount "sorted" 1 1 _) (wpAny_pure ?_)
  refine wpAny_bind (collect_set (A := X.A.in1) (I.ok.hd hc) ⟨o, ho, hex.1, hd⟩ R.fits (by unfold scanBound; omega) R.tab.ris R.led fun s1 vs k1 hz g1 o1 pm => ?_)
  have hes : es.toList.map (·.2) = L.map fun q => Value.ref q.1 := by
    rw [R.rows, List.map_map] <;> rfl
  obtain ⟨L1, pL, rfl⟩ := perm_lift _ pm L hes
  have hvl : (L1.map fun q => Value.ref q.1).length < 64 := by rw [List.length_map, pL.length_eq]; exact hfew
  refine wpAny_bind (wpAny_newList ?_ (by rw [sizeLine_eq]; omega))
  have hoL : (s1.heap.push (seqObj "list" (L1.map fun q => Value.ref q.1).toArray 0)).get? s1.heap.objs.size = some (seqObj "list" (L1.map fun q => Value.ref q.1).toArray 0) := Heap.get?_push_size _ rfl
  have er : EachIs (fun v (q : Addr × List Str) => ∃ as, Reads (s1.heap.push (seqObj "list" (L1.map fun q => Value.ref q.1).toArray 0)) v (lotD q.2) as ∧ s1.heap.objs.size ∉ as) (L1.map fun q => Value.ref q.1) L1 := by
    have go : ∀ M : List (Addr × List Str), (∀ q ∈ M, q ∈ L) → EachIs (fun v (q : Addr × List Str) => ∃ as, Reads (s1.heap.push (seqObj "list" (L1.map fun q => Value.ref q.1).toArray 0)) v (lotD q.2) as ∧ s1.heap.objs.size ∉ as) (M.map fun q => Value.ref q.1) M := by
      intro M
      induction M with
      | nil => intro _; exact .nil
      | cons q M ih =>
        intro hM
        refine .cons ⟨[], ?_, by simp⟩ (ih fun q hq => hM q (List.mem_cons_of_mem _ hq))
        obtain ⟨o, items, n, ho, hc, hd, hi⟩ := hT q (hM q List.mem_cons_self)
        exact .tuple (Heap.get?_push_of_some _ (k1 _ _ ho)) hc hd (reads_strs (X := X) hi)
    exact go L1 fun q hq => pL.mem_iff.mp hq
  refine wpAny_bind (wpAny_holding (list_sort_data (s := { s1 with heap := s1.heap.push (seqObj "list" (L1.map fun q => Value.ref q.1).toArray 0) }) (enc := fun q : Addr × List Str => lotD q.2) (R := fun v q => v = Value.ref q.1) hoL (eachS_of L1) er (allAlike_lots _ L1)
    (sortable_lots _ L1 fun b hb => hne b (pL.mem_iff.mp hb)) (by rw [sizeLine_eq, pL.length_eq]; omega) (fun b hb => by have := depth_lot b.2; show X.A.units + 1 + 1 + _ < _; omega) fun out hl he => ?_))
  obtain ⟨c, hcc⟩ := sortedHeap_at (vs := L1.map fun q => Value.ref q.1) (out := out.toArray) hoL
  have hout := of_eachS he
  have kk : ∀ b u, s.heap.get? b = some u → (sortedHeap (s1.heap.push (seqObj "list" (L1.map fun q => Value.ref q.1).toArray 0)) s1.heap.objs.size (L1.map fun q => Value.ref q.1) out.toArray).get? b = some u := fun b u e => by
    have q := k1 b u e
    have hlt := Heap.lt_size q
    rw [sortedHeap_old (Nat.ne_of_lt hlt) (by rw [size_push']; exact Nat.lt_succ_of_lt hlt)]
    exact Heap.get?_push_of_some _ q
  have hn : H s1.heap.objs.size = none := I.hok.fresh hz
  have hv : Vals ((L1.mergeSort (dataLe false fun q => lotD q.2)).map fun q => V.ref q.1) out := by rw [hout]; exact valsS_of _
  have hlen : ((L1.mergeSort (dataLe false fun q => lotD q.2)).map fun q => V.ref q.1).length ≤ sizeLine := by rw [List.length_map, List.length_mergeSort, pL.length_eq, sizeLine_eq]; omega
  obtain ⟨h1, g1', d1, t1, os1⟩ := s1
  obtain rfl : g1' = s.gens := g1
  obtain rfl : os1 = s.os := o1
  have J : Inv X pins σ (upd H h1.objs.size (.lst ((L1.mergeSort (dataLe false fun q => lotD q.2)).map fun q => V.ref q.1))) { s with heap := sortedHeap (h1.push (seqObj "list" (L1.map fun q => Value.ref q.1).toArray 0)) h1.objs.size (L1.map fun q => Value.ref q.1) out.toArray, gens := s.gens, drawn := d1, toks := t1 } :=
    I.call (ch := []) (Un.laid kk hz hn) (I.hok.laid kk hz ⟨hlen, out, c, hv, hcc⟩) I.bare (fun _ z => nomatch z)
  exact wpAny_pure ⟨_, rfl, .ref h1.objs.size, _, J, rfl, q L1 _ _ pL hn rfl⟩
end
section
variable {K : PySem.W.Frag} {P : Program} {w : World} {σ : L2.St} {Hb : Hp} {nu : Nat → Str}
/-- distinct ones -/
def du : List (List Nat) → List (List Nat)
  | [] => []
  | x :: xs => if x ∈ xs then du xs else x :: du xs
theorem mem_du {y : List Nat} : ∀ {xs : List (List Nat)}, y ∈ du xs ↔ y ∈ xs
  | [] => Iff.rfl
  | x :: xs => by
    unfold du
    by_cases h : x ∈ xs
    · rw [if_pos h, mem_du, List.mem_cons]
      exact ⟨.inr, fun z => z.elim (fun e => by rw [e]; exact h) id⟩
    · rw [if_neg h, List.mem_cons, List.mem_cons, mem_du]
theorem nodup_du : ∀ xs : List (List Nat), (du xs).Nodup
  | [] => List.nodup_nil
  | x :: xs => by
    unfold du
    by_cases h : x ∈ xs
    · rw [if_pos h]; exact nodup_du xs
    · rw [if_neg h]; exact List.nodup_cons.mpr ⟨fun z => h (mem_du.mp z), nodup_du xs⟩
theorem dpAll_lots {H : Hp} : ∀ {ls : List (List Nat)} {vs : List V}, DpAll K H vs (ls.map (lotN nu)) → ∃ ks : List (Addr × List Str), vs = ks.map (fun p => V.ref p.1) ∧ ks.map (·.2) = ls.map (·.map nu) ∧ TupsS H ks
  | [], _, h => by
    cases h
    exact ⟨[], rfl, rfl, fun p hp => nomatch hp⟩
  | l :: ls, _, h => by
    cases h with
    | cons h1 h2 =>
      obtain ⟨ks, e1, e2, e3⟩ := dpAll_lots h2
      cases h1 with
      | @tup a xs _ hs ha =>
        have strs_of : ∀ (k : List Str) (xs : List V), DpAll K H xs (k.map .str) → xs = k.map V.str := by
          intro k
          induction k with
          | nil => intro xs h; cases h; rfl
          | cons x k ih =>
            intro xs h
            cases h with
            | cons h1 h2 => cases h1; rw [ih _ h2]; rfl
        refine ⟨(a, l.map nu) :: ks, by rw [e1]; rfl, by rw [List.map_cons, List.map_cons, e2], fun p hp => ?_⟩
        rcases List.mem_cons.mp hp with z | z
        · rw [z, hs, strs_of _ _ ha]
        · exact e3 p z
/-- what set(xs) of such lots is -/
theorem set_lots {tr : TA} {ls : List (List Nat)} {dt : PyData} (hdt : dt = .list (ls.map (lotN nu)) ∨ dt = .tuple (ls.map (lotN nu))) (h : EvA K tr σ Hb [dt]) (hf : ls.length < 64) (m : Mono nu) :
    ∀ H, Ex Hb H → ∀ Q : VK, (∀ a L Hb' H', Kn Hb H Hb' H' → H' a = some (SetSO P w a L) → TupsS Hb' L → (∃ M : List (List Nat), M.Perm (du ls) ∧ L.map (·.2) = M.map (·.map nu)) → Q (.ref a) H') → tCB (rSetD K P w) tr σ H Q := fun H e Q q =>
  h H e _ fun vs H1 H2 k hv => by
    have main : ∀ (l : Addr) (xs : List V), vs = [.ref l] → (SqL K H2 l xs ∨ SqT K H2 l xs) → DpAll K H1 xs (ls.map (lotN nu)) → rSetD K P w vs H2 Q := by
      rintro l xs rfl hs ha
      obtain ⟨ks, rfl, e2, e3⟩ := dpAll_lots ha
      have hkl : ks.length = ls.length := by
        have z := congrArg List.length e2
        rwa [List.length_map, List.length_map] at z
      refine ⟨l, ks, rfl, hs, fun p hp => k.sub _ _ (e3 p hp), by omega, fun a L hn h1 h2 h3 => q a L H1 _ (k.trans (Kn.mut k.sub hn)) upd_same (fun p hp => e3 p (h1 p hp)) ?_⟩
      -- the keys are the images of lots
      have mem : ∀ y, y ∈ L.map (·.2) ↔ y ∈ ls.map (·.map nu) := fun y => by
        rw [← e2]
        constructor
        · intro hy
          obtain ⟨p, hp, rfl⟩ := List.mem_map.mp hy
          exact List.mem_map.mpr ⟨p, h1 p hp, rfl⟩
        · intro hy
          obtain ⟨p, hp, rfl⟩ := List.mem_map.mp hy
          exact h3 p hp
      have nd : ((du ls).map (·.map nu)).Nodup := List.pairwise_map.mpr ((nodup_du ls).imp fun hne e => hne (m.mapInj e))
      have pm : (L.map (·.2)).Perm ((du ls).map (·.map nu)) := (List.perm_ext_iff_of_nodup h2 nd).mpr fun y => by
        rw [mem y]
        constructor
        · intro hy
          obtain ⟨z, hz, rfl⟩ := List.mem_map.mp hy
          exact List.mem_map.mpr ⟨z, mem_du.mpr hz, rfl⟩
        · intro hy
          obtain ⟨z, hz, rfl⟩ := List.mem_map.mp hy
          exact List.mem_map.mpr ⟨z, mem_du.mp hz, rfl⟩
      obtain ⟨M, p1, p2⟩ := perm_lift _ pm _ rfl
      exact ⟨M, p1, p2⟩
    cases hv with
    | cons hv1 t1 =>
      cases t1
      rcases hdt with rfl | rfl
      · cases hv1 with
        | @lst a xs _ hs ha => exact main a xs rfl (.inl (Evl.ex_l k.sub hs)) ha
      · cases hv1 with
        | @tup a xs _ hs ha => exact main a xs rfl (.inr (SqT.of (k.sub _ _ hs))) ha
/-- len(set(xs)) -/
theorem evd_lenset {tr : TA} {ls : List (List Nat)} (h : EvA K tr σ Hb [.list (ls.map (lotN nu))]) (hf : ls.length < 64) (m : Mono nu) :
    EvD K (tCB (rLenSet P w) (tCons (tCB (rSetD K P w) tr) tNil)) σ Hb (.int (du ls).length) := fun H e Q q =>
  set_lots (.inl rfl) h hf m H e _ fun a L Hb' H' k ha hT ⟨M, pm, e2⟩ => ⟨a, L, rfl, ha, fun p hp => k.sub _ _ (hT p hp), by
    have z : L.length = (du ls).length := by
      have z := congrArg List.length e2
      rw [List.length_map, List.length_map, pm.length_eq] at z
      exact z
    rw [z]
    exact q _ Hb' H' k (.int _)⟩
theorem du_len : ∀ ls : List (List Nat), (du ls).length ≤ ls.length
  | [] => Nat.le_refl _
  | x :: xs => by
    unfold du
    have := du_len xs
    by_cases h : x ∈ xs
    · rw [if_pos h]; exact Nat.le_succ_of_le this
    · rw [if_neg h]; exact Nat.succ_le_succ this
theorem du_nodup : ∀ xs : List (List Nat), (du xs).length = xs.length ↔ xs.Nodup
  | [] => ⟨fun _ => List.nodup_nil, fun _ => rfl⟩
  | x :: xs => by
    unfold du
    have h1 := du_len xs
    by_cases h : x ∈ xs
    · rw [if_pos h, List.nodup_cons]
      exact ⟨fun e => by rw [List.length_cons] at e; omega, fun e => absurd h e.1⟩
    · rw [if_neg h, List.nodup_cons, List.length_cons, List.length_cons, Nat.add_right_cancel_iff, du_nodup xs]
      exact ⟨fun e => ⟨h, e⟩, fun e => e.2⟩
theorem dpAll_refs {H : Hp} : ∀ (ks : List (Addr × List Str)), TupsS H ks → DpAll K H (ks.map fun p => V.ref p.1) (ks.map fun p => lotD p.2)
  | [], _ => .nil
  | p :: ks, h => .cons (.tup (h p List.mem_cons_self) (by
      have go : ∀ k : List Str, DpAll K H (k.map V.str) (k.map .str) := by
        intro k
        induction k with
        | nil => exact .nil
        | cons x k ih => exact .cons (.str x) ih
      exact go p.2)) (dpAll_refs ks fun q hq => h q (List.mem_cons_of_mem _ hq))
/-- sorted(set(xs)) -/
theorem evn_sortset {tr : TA} {ls : List (List Nat)} (h : EvA K tr σ Hb [.tuple (ls.map (lotN nu))]) (hf : ls.length < 64) (hne : ∀ l ∈ ls, l ≠ []) (m : Mono nu) :
    EvN K (tCB (rSortSet P w) (tCons (tCB (rSetD K P w) tr) tNil)) σ Hb (((du ls).mergeSort leL).map (lotN nu)) := fun H e Q q =>
  set_lots (.inr rfl) h hf m H e _ fun a L Hb' H' k ha hT ⟨M, pm, e2⟩ => ⟨a, L, rfl, ha, fun p hp => k.sub _ _ (hT p hp), fun p hp => by
    have z : p.2 ∈ L.map (·.2) := List.mem_map.mpr ⟨p, hp, rfl⟩
    rw [e2] at z
    obtain ⟨l, hl, e3⟩ := List.mem_map.mp z
    have hl2 := hne l (mem_du.mp (pm.mem_iff.mp hl))
    intro e4
    rw [e4] at e3
    exact hl2 (by simpa using e3), fun L' ys p pL hp ey => by
    subst ey
    have nH : Hb' p = none := none_back k.sub hp
    refine q p _ Hb' _ (k.trans (Kn.mut k.sub hp)) (none_back k.cur hp) nH upd_same ?_
    have d1 := dpAll_refs (K := K) (H := Hb') (L'.mergeSort (dataLe false fun q => lotD q.2)) fun q hq => hT q (pL.mem_iff.mp (List.mem_mergeSort.mp hq))
    have e5 : (L'.mergeSort (dataLe false fun q => lotD q.2)).map (fun p => lotD p.2) = ((du ls).mergeSort leL).map (lotN nu) := by
      have a1 : (L'.mergeSort (dataLe false fun q => lotD q.2)).map (fun p => lotD p.2) = (L'.map fun p => lotD p.2).mergeSort (dataLe false id) := (merge_enc (fun p : Addr × List Str => lotD p.2) _ L' fun a _ b _ => rfl).symm
      obtain ⟨M', pM, eM⟩ := perm_lift (fun p : Addr × List Str => p.2) (l := L'.map (·.2)) (m := L.map (·.2)) (pL.map _) L rfl
      obtain ⟨N, pN, eN⟩ := perm_lift (fun l : List Nat => l.map nu) (l := L'.map (·.2)) (m := M.map (·.map nu)) (by rw [← e2]; exact pL.map _) M rfl
      have a2 : (L'.map fun p => lotD p.2) = N.map (lotN nu) := by
        have z : (L'.map (·.2)).map lotD = (N.map fun l => l.map nu).map lotD := by rw [eN]
        rw [List.map_map, List.map_map] at z
        exact z
      rw [a1, a2, sort_lots m]
      refine congrArg (List.map (lotN nu)) ?_
      refine Srt.the_of_perm leL leL_trans leL_total (fun x y => leL_anti x y) ?_ ?_
      · exact (List.mergeSort_perm N leL).trans (pN.trans pm)
      · exact List.pairwise_mergeSort leL_trans leL_total N
    rw [e5] at d1
    exact d1⟩
end
end Jt

set_option Elab.async false
set_option linter.all false
set_option maxRecDepth 100000
set_option maxHeartbeats 4000000
/-! min by len; dicts of lots; lists of our own. -/
namespace Jt
open PySem PySem.Spec PyProof.Rows L2 PySem.W

/-! ### min by len -/
def minLen : List (List Nat) → List Nat → List Nat
  | [], b => b
  | x :: r, b => cond (Nat.blt x.length b.length) (minLen r x) (minLen r b)
def minFst : List (List Nat) → List Nat
  | [] => []
  | x :: r => minLen r x
/-- i is the place of the first shortest -/
def Fst (l : List (List Nat)) (i : Nat) : Prop := i < l.length ∧ ∀ j, j < l.length → (l.getD i []).length ≤ (l.getD j []).length ∧ (j < i → (l.getD i []).length < (l.getD j []).length)
theorem fst_min : ∀ (r : List (List Nat)) (b : List Nat) (i : Nat), Fst (b :: r) i → (b :: r)[i]? = some (minLen r b)
  | [], b, i, h => by
    have h1 : i = 0 := by have := h.1; simp at this; exact this
    subst h1; rfl
  | x :: r, b, i, h => by
    unfold minLen
    by_cases hx : x.length < b.length
    · have e : Nat.blt x.length b.length = true := Nat.ble_eq_true_of_le hx
      rw [e]
      show (b :: x :: r)[i]? = some (minLen r x)
      cases i with
      | zero =>
        have z := (h.2 1 (by simp)).1
        simp at z
        omega
      | succ i =>
        rw [List.getElem?_cons_succ]
        refine fst_min r x i ⟨by have := h.1; simp at this ⊢; omega, fun j hj => ?_⟩
        have z := h.2 (j + 1) (by simp at hj ⊢; omega)
        simp only [List.getD_cons_succ] at z
        exact ⟨z.1, fun hji => z.2 (by omega)⟩
    · have e : Nat.blt x.length b.length = false := by
        cases q : Nat.blt x.length b.length with
        | false => rfl
        | true => exact absurd (Nat.le_of_ble_eq_true q) hx
      rw [e]
      show (b :: x :: r)[i]? = some (minLen r b)
      match i, h with
      | 0, h =>
        have := fst_min r b 0 ⟨by simp, fun j hj => ⟨?_, fun hji => absurd hji (Nat.not_lt_zero _)⟩⟩
        · simpa using this
        · cases j with
          | zero => exact Nat.le_refl _
          | succ j =>
            have z := (h.2 (j + 2) (by simp at hj ⊢; omega)).1
            simpa using z
      | 1, h =>
        have z := (h.2 0 (by simp)).2 (by omega)
        simp at z
        omega
      | i + 2, h =>
        rw [List.getElem?_cons_succ, List.getElem?_cons_succ]
        have := fst_min r b (i + 1) ⟨by have := h.1; simp at this ⊢; omega, fun j hj => ?_⟩
        · rwa [List.getElem?_cons_succ] at this
        · cases j with
          | zero =>
            have z := h.2 0 (by simp)
            simp only [List.getD_cons_succ, List.getD_cons_zero] at z ⊢
            exact ⟨z.1, fun _ => z.2 (by omega)⟩
          | succ j =>
            have z := h.2 (j + 2) (by simp at hj ⊢; omega)
            simp only [List.getD_cons_succ] at z ⊢
            exact ⟨z.1, fun hji => z.2 (by omega)⟩
section
variable {K : PySem.W.Frag} {P : Program} {w : World} {σ : L2.St} {Hb : Hp} {nu : Nat → Str}
theorem dpAll_lotsGet {H : Hp} {l : List (List Nat)} {xs : List V} (h : DpAll K H xs (l.map (lotN nu))) {j : Nat} {v : V} (hv : xs[j]? = some v) : ∃ x, l[j]? = some x ∧ Dp K H v (lotN nu x) := by
  obtain ⟨d, h1, h2⟩ := dpAll_get h hv
  rw [List.getElem?_map] at h1
  cases q : l[j]? with
  | none => rw [q] at h1; cases h1
  | some x =>
    rw [q] at h1
    cases h1
    exact ⟨x, rfl, h2⟩
theorem evd_minL {te : TE} {l : List (List Nat)} (h : EvD K te σ Hb (.list (l.map (lotN nu)))) (hne : l ≠ []) : EvD K (tMinL K te) σ Hb (lotN nu (minFst l)) := fun H e Q q =>
  h H e _ fun v Hb' H' k hv => by
    cases hv with
    | @lst a xs _ hs ha =>
      have hl : xs.length = l.length := by rw [dpAll_len ha, List.length_map]
      refine ⟨a, xs, fun j => (l.getD j []).length, rfl, Evl.ex_l k.sub hs, fun z => ?_, fun j v hv => ?_, fun i v hv hm => ?_⟩
      · rw [z] at hl
        exact hne (List.length_eq_zero_iff.mp hl.symm)
      · obtain ⟨x, hx, hd⟩ := dpAll_lotsGet ha hv
        cases hd with
        | @tup t ys _ ht hy =>
          refine ⟨t, ys, rfl, SqT.of (k.sub _ _ ht), ?_⟩
          show ys.length = (l.getD j []).length
          rw [dpAll_len hy, List.length_map, List.length_map, List.getD_eq_getElem?_getD, hx] <;> rfl
      · obtain ⟨x, hx, hd⟩ := dpAll_lotsGet ha hv
        have hi : i < l.length := (List.getElem?_eq_some_iff.mp hx).1
        have e2 : x = minFst l := by
          cases l with
          | nil => exact absurd rfl hne
          | cons b r =>
            have z := fst_min r b i ⟨hi, fun j hj => hm j (by rw [hl]; exact hj)⟩
            rw [hx] at z
            exact Option.some.inj z
        rw [e2] at hd
        exact q v Hb' H' k hd
/-! ### dicts -/
theorem strs_vals {H : Hp} : ∀ (k : List Str) (xs : List V), DpAll K H xs (k.map .str) → xs = k.map V.str
  | [], _, h => by cases h; rfl
  | x :: k, _, h => by
    cases h with
    | cons h1 h2 => cases h1; rw [strs_vals k _ h2]; rfl
theorem key_strs (k : List Str) : (k.map (Sum.inr : Str → Key)).map kV = k.map V.str := by
  rw [List.map_map]
  rfl
theorem lot_at {H : Hp} {v : V} {k : List Str} (h : Dp K H v (lotD k)) : ∃ b, v = .ref b ∧ H b = some (.tup ((k.map (Sum.inr : Str → Key)).map kV)) := by
  cases h with
  | @tup b xs _ hs ha => exact ⟨b, rfl, by rw [key_strs, hs, strs_vals _ _ ha]⟩
/-- a dict of lots -/
abbrev dctN (nu : Nat → Str) (ls : List (List Nat)) (g : List Nat → PyData) : PyData := .dict (ls.map fun l => (lotN nu l, g l))
def keyN (nu : Nat → Str) (l : List Nat) : List Key := (l.map nu).map Sum.inr
theorem keyN_inj (m : Mono nu) {a b : List Nat} (h : keyN nu a = keyN nu b) : a = b := by
  refine m.mapInj ?_
  unfold keyN at h
  exact List.map_inj_right (fun x y e => Sum.inr.inj e) |>.mp h
theorem dct_keys {H : Hp} {g : List Nat → PyData} : ∀ {ls : List (List Nat)} {kvs : List (List Key × V)}, DctAll K H kvs (ls.map fun l => (lotN nu l, g l)) → kvs.map (·.1) = ls.map (keyN nu) := by
  intro ls
  induction ls with
  | nil => intro kvs h; cases h; rfl
  | cons l ls ih =>
    intro kvs h
    rw [List.map_cons] at h
    generalize hd : lotN nu l = d0 at h
    cases h with
    | @cons ks v kvs d ps h1 h2 =>
      rw [List.map_cons, List.map_cons, ih h2]
      have e : ks = l.map nu := by
        have e1 : (l.map nu).map PyData.str = ks.map PyData.str := by
          injection hd
        exact ((List.map_inj_right (fun x y e => PyData.str.inj e)).mp e1).symm
      rw [e]
      rfl
theorem dct_app {H : Hp} {ks : List Str} {v : V} {d : PyData} (h2 : Dp K H v d) : ∀ {kvs : List (List Key × V)} {ps : List (PyData × PyData)}, DctAll K H kvs ps → DctAll K H (kvs ++ [(ks.map Sum.inr, v)]) (ps ++ [(lotD ks, d)])
  | _, _, .nil => .cons h2 .nil
  | _, _, .cons h t => .cons h (dct_app h2 t)
theorem dct_get {H : Hp} {g : List Nat → PyData} (m : Mono nu) {l : List Nat} : ∀ {ls : List (List Nat)} {kvs : List (List Key × V)}, DctAll K H kvs (ls.map fun l => (lotN nu l, g l)) → l ∈ ls → ∃ v, valV kvs (keyN nu l) = some v ∧ Dp K H v (g l) := by
  intro ls
  induction ls with
  | nil => intro kvs h hl; cases hl
  | cons x ls ih =>
    intro kvs h hl
    have hk := dct_keys h
    rw [List.map_cons] at h
    generalize hd : lotN nu x = d0 at h
    cases h with
    | @cons ks v kvs d ps h1 h2 =>
      rw [List.map_cons, List.map_cons] at hk
      injection hk with hk1 hk2
      by_cases hx : x = l
      · subst hx
        exact ⟨v, valV_pos hk1, h1⟩
      · rcases List.mem_cons.mp hl with z | z
        · exact absurd z.symm hx
        · obtain ⟨v2, a1, a2⟩ := ih h2 z
          refine ⟨v2, ?_, a2⟩
          rw [valV_neg]
          · exact a1
          · intro e
            have e2 : keyN nu x = keyN nu l := by
              rw [← e]; exact hk1.symm
            exact hx (keyN_inj m e2)
/-- d[lot] -/
theorem evd_dget {td ty : TE} {ls : List (List Nat)} {g : List Nat → PyData} {l : List Nat} (m : Mono nu) (h1 : EvD K td σ Hb (dctN nu ls g)) (h2 : EvD K ty σ Hb (lotN nu l)) (hl : l ∈ ls) : EvD K (tDGet td ty) σ Hb (g l) := fun H e Q q =>
  h1 H e _ fun v Hb' H' k hv => h2.mono k.bas H' k.sub _ fun y Hb2 H2 k2 hy => by
    cases hv with
    | @dct a kvs _ hs ha =>
      obtain ⟨b, rfl, hb⟩ := lot_at hy
      obtain ⟨v2, a1, a2⟩ := dct_get m (dctAll_mono k2.bas _ _ ha) hl
      refine ⟨a, v2, rfl, ?_, q v2 Hb2 H2 (k.trans k2) a2⟩
      have hd := DGet.t (H := H2) (a := a) (b := b) (kvs := kvs) (k := keyN nu l) ((k2.bas.trans k2.sub) _ _ hs) (k2.sub _ _ hb)
      rw [a1] at hd
      exact hd
/-- {lot: .. for lot in lots} -/
theorem evd_dc {wi : TI} {tk te : TE} {vs : List Nat} {j : Nat} {ls : List (List Nat)} (g : List Nat → PyData) (m : Mono nu) (h : WaD K wi σ Hb (ls.map (lotN nu))) (hz : ls.length ≤ 40000) (hnd : ls.Nodup) (hw : ∀ x, wipe ((wipe σ vs).set j (some x)) vs = wipe σ vs)
    (hk : ∀ l, l ∈ ls → ∀ v Hc, Ex Hb Hc → Dp K Hc v (lotN nu l) → EvD K tk ((wipe σ vs).set j (some v)) Hc (lotN nu l))
    (he : ∀ l, l ∈ ls → ∀ v Hc, Ex Hb Hc → Dp K Hc v (lotN nu l) → EvD K te ((wipe σ vs).set j (some v)) Hc (g l)) : EvD K (tDcT wi (gName j) tk te vs) σ Hb (dctN nu ls g) := fun H e Q q => h H e _ fun J xs H1 H2 k0 hxs G D hD => by
  have hl : xs.length = ls.length := by rw [dpAll_len hxs, List.length_map]
  refine ⟨fun i mm H' => mm = ls.length - i ∧ i ≤ ls.length ∧ ∃ Hc kvs, Kn H1 H2 Hc H' ∧ Hc D = none ∧ H' D = some (.dT kvs) ∧ DctAll K Hc kvs ((ls.take i).map fun l => (lotN nu l, g l)), ⟨ls.length, by simp, Nat.zero_le _, H1, [], Kn.mut k0.sub hD, none_back k0.sub hD, upd_same, .nil⟩, ?_⟩
  rintro i mm H' ⟨rfl, hi, Hc, kvs, k, n, hd, ha⟩
  obtain ⟨G1, G2, G3⟩ := G i H' (k.bas.trans k.sub)
  by_cases hlt : i < ls.length
  · have hlt' : i < xs.length := by omega
    refine .inr ⟨G1 hlt', fun H' => ∃ Hc kvs, Kn H1 H2 Hc H' ∧ Hc D = none ∧ H' D = some (.dT kvs) ∧ DctAll K Hc kvs ((ls.take (i + 1)).map fun l => (lotN nu l, g l)), fun H3 p => ⟨ls.length - (i + 1), by omega, rfl, hlt, p⟩, fun x H3 y => ?_⟩
    obtain ⟨e3, hx⟩ := G3 x H3 y hlt'
    subst e3
    obtain ⟨l, hll, hdx⟩ := dpAll_lotsGet hxs hx
    have hm := List.mem_of_getElem? hll
    have e1 : Ex Hb Hc := k0.bas.trans k.bas
    have dx := dp_mono k.bas _ x hdx
    refine ⟨hw x, ?_⟩
    refine hk l hm x Hc e1 dx H3 k.sub _ fun y1 Hd H4 k4 hy => ?_
    refine (he l hm x Hc e1 dx).mono k4.bas H4 k4.sub _ fun z Hf H5 k5 hz5 => ?_
    obtain ⟨b, rfl, hb⟩ := lot_at hy
    obtain ⟨n4, c4⟩ := k4.hid n hd
    obtain ⟨n5, c5⟩ := k5.hid n4 c4
    have ke := dct_keys ha
    have hkl : kvs.length = i := by
      have z := congrArg List.length ke
      rw [List.length_map, List.length_map, List.length_take] at z
      omega
    refine ⟨b, kvs, keyN nu l, rfl, k5.cur _ _ (k4.sub _ _ hb), c5, Evl.sz_lt (by omega), Hf, putK kvs (keyN nu l) z, ⟨Evl.Ex.mut (k.trans (k4.trans k5)).cur hD, (k.trans (k4.trans k5)).bas, ex_hid k5.sub n5, (k.trans (k4.trans k5)).nw⟩, n5, upd_same, ?_⟩
    have new : (kvs.any fun kv => decide (kv.1 = keyN nu l)) = false := by
      rw [List.any_eq_false]
      intro kv hkv hc
      have e6 : kv.1 = keyN nu l := of_decide_eq_true hc
      have h6 : keyN nu l ∈ (ls.take i).map (keyN nu) := by rw [← ke, ← e6]; exact List.mem_map.mpr ⟨kv, hkv, rfl⟩
      obtain ⟨l2, h7, e7⟩ := List.mem_map.mp h6
      have e8 := keyN_inj m e7
      subst e8
      have h9 : ls.take (i + 1) = ls.take i ++ [l2] := by rw [List.take_add_one, hll]; rfl
      have h10 : (ls.take (i + 1)).Nodup := hnd.sublist (List.take_sublist _ _)
      rw [h9] at h10
      exact (List.nodup_append.mp h10).2.2 l2 h7 l2 (List.mem_singleton.mpr rfl) rfl
    unfold putK
    rw [new, List.take_add_one, hll]
    simp only [Bool.false_eq_true, if_false, Option.toList_some, List.map_append, List.map_cons, List.map_nil]
    exact dct_app hz5 (dctAll_mono (k4.bas.trans k5.bas) _ _ ha)
  · have e2 : i = ls.length := by omega
    subst e2
    refine .inl ⟨G2 (by omega), ?_⟩
    rw [List.take_length] at ha
    have kk := k0.trans k
    have hn : Ex Hc (upd Hc D (.dT kvs)) := Evl.Ex.new n
    refine q (.ref D) (upd Hc D (.dT kvs)) H' ⟨kk.cur, kk.bas.trans hn, fun a o z => ?_, fun a o z => ?_⟩ (.dct upd_same (dctAll_mono hn _ _ ha))
    · by_cases e4 : a = D
      · subst e4; rw [upd_same] at z; cases z; exact hd
      · rw [upd_ne e4] at z; exact k.sub a o z
    · by_cases e4 : a = D
      · subst e4; exact .inr (none_back k0.cur hD)
      · rw [upd_ne e4] at z; exact kk.nw a o z
/-! ### a list of our own, that changes -/
structure Own (K : PySem.W.Frag) (Hb H : Hp) (p : Addr) (ds : List PyData) : Prop where
  hid : Hb p = none
  at_ : ∃ xs, H p = some (.lst xs) ∧ DpAll K Hb xs ds
theorem Own.kn {Hb H Hb' H' : Hp} {p : Addr} {ds : List PyData} (o : Own K Hb H p ds) (k : Kn Hb H Hb' H') : Own K Hb' H' p ds := by
  obtain ⟨xs, hx, ha⟩ := o.at_
  obtain ⟨n, c⟩ := k.hid o.hid hx
  exact ⟨n, xs, c, dpAll_mono k.bas _ _ ha⟩
theorem Own.app {Hb H : Hp} {p : Addr} {ds : List PyData} {xs : List V} {v : V} {d : PyData} (n : Hb p = none) (ha : DpAll K Hb xs ds) (hv : Dp K Hb v d) : Own K Hb (upd H p (.lst (xs ++ [v]))) p (ds ++ [d]) :=
  ⟨n, _, upd_same, dpAll_app ha (dpAll_one hv)⟩
theorem Own.ne {Hb H : Hp} {p q : Addr} {ds : List PyData} {o : HO} (w : Own K Hb H p ds) (h : p ≠ q) : Own K Hb (upd H q o) p ds := by
  obtain ⟨xs, hx, ha⟩ := w.at_
  exact ⟨w.hid, xs, by rw [upd_ne h]; exact hx, ha⟩
/-- shown: from now on read as data -/
theorem Own.show_ {Hb H : Hp} {p : Addr} {ds : List PyData} (o : Own K Hb H p ds) (e : Ex Hb H) : ∃ Hc, Ex Hb Hc ∧ Ex Hc H ∧ Dp K Hc (.ref p) (.list ds) ∧ (∀ a u, Hc a = some u → a = p ∨ Hb a = some u) := by
  obtain ⟨xs, hx, ha⟩ := o.at_
  have hn : Ex Hb (upd Hb p (.lst xs)) := Evl.Ex.new o.hid
  refine ⟨upd Hb p (.lst xs), hn, fun a u z => ?_, .lst (.inl (.inl upd_same)) (dpAll_mono hn _ _ ha), fun a u z => ?_⟩
  · by_cases e2 : a = p
    · subst e2; rw [upd_same] at z; cases z; exact hx
    · rw [upd_ne e2] at z; exact e a u z
  · by_cases e2 : a = p
    · exact .inl e2
    · rw [upd_ne e2] at z; exact .inr z
end
end Jt

set_option Elab.async false
set_option linter.all false
set_option maxRecDepth 100000
set_option maxHeartbeats 4000000
/-! The program on trees and lots of whole numbers. -/
namespace Jt
inductive T where
  | leaf (i : Nat)
  | fork (l r : T)
def beqT : T → T → Bool
  | .leaf i, .leaf j => Nat.beq i j
  | .fork a b, .fork c d => beqT a c && beqT b d
  | _, _ => false
def firstT : T → Nat
  | .leaf i => i
  | .fork l _ => firstT l
def forkN (a b : T) : T := cond (Nat.blt (firstT b) (firstT a)) (.fork b a) (.fork a b)
def leaves : T → List Nat
  | .leaf i => [i]
  | .fork l r => leaves l ++ leaves r
def depthT : T → Nat
  | .leaf _ => 0
  | .fork l r => max (depthT l) (depthT r) + 1
def memB (i : Nat) : List Nat → Bool
  | [] => false
  | j :: r => cond (Nat.beq i j) true (memB i r)
def insN (i : Nat) : List Nat → List Nat
  | [] => [i]
  | j :: r => cond (Nat.ble i j) (i :: j :: r) (j :: insN i r)
def sortN : List Nat → List Nat
  | [] => []
  | i :: r => insN i (sortN r)
def leB : List Nat → List Nat → Bool
  | [], _ => true
  | _ :: _, [] => false
  | i :: a, j :: b => cond (Nat.beq i j) (leB a b) (Nat.blt i j)
def eqB : List Nat → List Nat → Bool
  | [], [] => true
  | i :: a, j :: b => cond (Nat.beq i j) (eqB a b) false
  | _, _ => false
def insL (i : List Nat) : List (List Nat) → List (List Nat)
  | [] => [i]
  | j :: r => cond (leB i j) (i :: j :: r) (j :: insL i r)
def sortL : List (List Nat) → List (List Nat)
  | [] => []
  | i :: r => insL i (sortL r)
def namesT (t : T) : List Nat := sortN (leaves t)
def below : T → List (List Nat)
  | .leaf _ => []
  | .fork l r => namesT (.fork l r) :: (below l ++ below r)
def nodesT (t : T) : List (List Nat) := sortL (below t) ++ (namesT t).map fun i => [i]
def hasAll (lot names : List Nat) : Bool := names.all fun i => memB i lot
def headT (nodes : List (List Nat)) (lot : List Nat) : List Nat := minFst (nodes.filter fun n => hasAll n lot)
def metT (nodes : List (List Nat)) (lot : List Nat) : List (List Nat) := nodes.filter fun n => lot.any fun i => memB i n
def wayT (nodes : List (List Nat)) (lot : List Nat) : List (List Nat) := (metT nodes lot).filter fun n => Nat.ble n.length (headT nodes lot).length
def memL (i : List Nat) : List (List Nat) → Bool
  | [] => false
  | j :: r => cond (eqB i j) true (memL i r)
def nodupL : List (List Nat) → Bool
  | [] => true
  | i :: r => cond (memL i r) false (nodupL r)
def waysT (t : T) (top : List Nat) (others : List (List Nat)) : List (List Nat) := metT (nodesT t) top ++ others.flatMap fun lot => wayT (nodesT t) lot
def apart (t : T) (top : List Nat) (others : List (List Nat)) : Bool := nodupL (waysT t top others)
def partT : T → List Nat → Option T
  | .leaf i, m => cond (memB i m) (some (.leaf i)) none
  | .fork l r, m => match partT l m, partT r m with
    | some a, some b => some (forkN a b)
    | some a, none => some a
    | none, some b => some b
    | none, none => none
def beqO : Option T → Option T → Bool
  | some a, some b => beqT a b
  | none, none => true
  | _, _ => false
def full : List Nat → Bool
  | [] => false
  | _ => true
def sameAll (a b : T) (lots : List (List Nat)) : Bool := (lots.filter full).all fun l => beqO (partT a l) (partT b l)
def share (a b : T) (top : List Nat) (others : List (List Nat)) : Bool :=
  sameAll a b (top :: others) && (apart a top others && apart b top others)
def grow : List (List Nat) → Nat → List (List (List Nat))
  | [], _ => []
  | l :: r, i => ((l ++ [i]) :: r) :: (grow r i).map (l :: ·)
def longer (top : List Nat) (others : List (List Nat)) (i most : Nat) : List (List Nat × List (List Nat)) :=
  ((top ++ [i], others) :: ((grow others i).map fun o => (top, o))) ++ cond (Nat.blt others.length most) [(top, others ++ [[i]])] []
def findF {α β : Type} (f : α → Option β) : List α → Option β
  | [] => none
  | x :: r => match f x with
    | some y => some y
    | none => findF f r
def aboveIn (nodes : List (List Nat)) (lot mate : List Nat) : Bool := !eqB (headT nodes lot) (headT nodes mate) && hasAll (headT nodes lot) (headT nodes mate)
def above (a b : T) (lot mate : List Nat) : Bool := aboveIn (nodesT a) lot mate || aboveIn (nodesT b) lot mate
def eraseM (x : List Nat) : List (List Nat) → List (List Nat)
  | [] => []
  | y :: r => cond (eqB x y) r (y :: eraseM x r)
def freeT (a b : T) (left : List (List Nat)) : List (List Nat) := left.filter fun lot => !((left.filter fun mate => !eqB mate lot).any fun mate => above a b mate lot)
def orderT (a b : T) : Nat → List (List Nat) → Bool
  | 0, left => !(left.any fun _ => true)
  | f + 1, left => match left with
    | [] => true
    | _ => match freeT a b left with
      | [] => false
      | x :: _ => orderT a b f (eraseM x left)
def ordered (a b : T) (others : List (List Nat)) : Bool := orderT a b others.length others
def look (a b : T) (most : Nat) (ringless : Bool) : List Nat → List Nat → List (List Nat) → Option (List Nat × List (List Nat))
  | [], top, others => cond (ringless && !ordered a b others) none (some (top, sortL others))
  | i :: r, top, others => findF (fun p => cond (share a b p.1 p.2) (look a b most ringless r p.1 p.2) none) (longer top others i most)
def fewest (a b : T) (ringless : Bool) (names : List Nat) : Nat → Nat → Option (List Nat × List (List Nat))
  | 0, _ => none
  | f + 1, most => match look a b most ringless names [] [] with
    | some x => some x
    | none => fewest a b ringless names f (most + 1)
/-! how the trees and lots stand as data -/
open PySem
def treeD (nu : Nat → Str) : T → PyData
  | .leaf i => .str (nu i)
  | .fork l r => .tuple [treeD nu l, treeD nu r]
abbrev nmD (nu : Nat → Str) (i : Nat) : PyData := .str (nu i)
def optD (nu : Nat → Str) : Option T → PyData
  | none => .none
  | some t => treeD nu t
abbrev lotsD (nu : Nat → Str) (ls : List (List Nat)) : List PyData := ls.map (lotN nu)
abbrev forD (nu : Nat → Str) (p : List Nat × List (List Nat)) : PyData := .tuple [lotN nu p.1, .tuple (lotsD nu p.2)]
end Jt

set_option Elab.async false
set_option linter.all false
set_option maxRecDepth 100000
set_option maxHeartbeats 4000000
/-! Short forms: the text's constructs with their rules; what they evaluate to. -/
namespace Jt
open PySem PySem.Spec PyProof.Rows L2 PySem.W

/-- the built-in names are free, the two constants stand -/
structure Bi (mg : Str → Option Value) : Prop where
  isinstance : mg "isinstance" = none
  str : mg "str" = none
  tuple : mg "tuple" = none
  list : mg "list" = none
  len : mg "len" = none
  all : mg "all" = none
  any : mg "any" = none
  sorted : mg "sorted" = none
  min : mg "min" = none
  set : mg "set" = none
  range : mg "range" = none
  enumerate : mg "enumerate" = none
  abs : mg "abs" = none
  int : mg "int" = none
  letters : ∃ t, mg "LETTERS" = some (.str "abcdefghijklmnopqrstuvwxyz" t)
  longest : ∃ t, mg "LONGEST" = some (.int 8 t)
abbrev FnP (K : PySem.W.Frag) (x : Str) (st : Stmt) (f : Addr) (fd : FuncData) : Prop := FunD K x x (defArgs st) (defBody st) (defScope st) [] [] f fd
/-- a def that keeps a promise, as its callers take it -/
structure Kept (P : Program) (w : World) (K : PySem.W.Frag) (mg : Str → Option Value) (base : Heap) (x : Str) (k : Nat) (ps : List Str) (sp : Sp) (f : Addr) (fd : FuncData) : Prop where
  ok : FnOk P w K mg base CX0 k f fd ps sp
  bd : Binds K fd ps []
  kp : PySem.W.keepIn K (.ref f) = true
  mg : mg x = some (.ref f)
section
variable {P : Program} {w : World} {K : PySem.W.Frag} {mg : Str → Option Value} {base : Heap} {f : Addr} {fd : FuncData}
theorem sp_len {ι : Type} {ok : ι → Prop} {arg : ι → List PyData} {res : ι → PyData} {vs : List V} {H : Hp} {Q : VK} {E : XK} {n : Nat} (h : spD K ok arg res vs H Q E) (hl : ∀ i, (arg i).length = n) : vs.length = n := by
  obtain ⟨i, Hb, _, _, hv, _⟩ := h
  rw [dpAll_len hv]; exact hl i
theorem Kept.of {x : Str} {k : Nat} {ps : List Str} {sp : Sp} {st : Stmt} (F : FnP K x st f fd) (g : mg x = some (.ref f)) (ok : FnOk P w K mg base CX0 k f fd ps sp)
    (hb : ∀ (kV doc pm : Value) (an : Option Addr) (cdv ct : Value) (us : List Value), us.length = ps.length → bindArgs (PySem.W.fnOf x x (defArgs st) (defBody st) (defScope st) .none kV doc pm an cdv ct) ⟨us, []⟩ = pure (ps.zip us)) :
    Kept P w K mg base x k ps sp f fd := ⟨ok, F.bindsN hb, F.kp, g⟩
end
abbrev FnK (K : PySem.W.Frag) (x : Str) (st : Stmt) (kws : List (Str × V)) (f : Addr) (fd : FuncData) : Prop := FunD K x x (defArgs st) (defBody st) (defScope st) [] kws f fd
/-- a def with one keyword-only parameter -/
structure KeptK (P : Program) (w : World) (K : PySem.W.Frag) (mg : Str → Option Value) (base : Heap) (x : Str) (k n : Nat) (ps : List Str) (kn : Str) (sp : Sp) (f : Addr) (fd : FuncData) : Prop where
  ok : FnOk P w K mg base CX0 k f fd ps sp
  kb : KBn K fd ps n [kn] (fun us ws => us ++ ws) (fun vs zs => vs ++ zs)
  kp : PySem.W.keepIn K (.ref f) = true
  mg : mg x = some (.ref f)
section
variable {P : Program} {w : World} {K : PySem.W.Frag} {mg : Str → Option Value} {base : Heap} {f : Addr} {fd : FuncData}
theorem KeptK.of {x kn : Str} {k n : Nat} {ps : List Str} {sp : Sp} {st : Stmt} {kws : List (Str × V)} (F : FnK K x st kws f fd) (g : mg x = some (.ref f)) (ok : FnOk P w K mg base CX0 k f fd ps sp)
    (hb : ∀ (kV doc pm : Value) (an : Option Addr) (cdv ct : Value) (us ws : List Value), us.length = n → ws.length = 1 → bindArgs (PySem.W.fnOf x x (defArgs st) (defBody st) (defScope st) .none kV doc pm an cdv ct) ⟨us, [kn].zip ws⟩ = pure (ps.zip (us ++ ws))) :
    KeptK P w K mg base x k n ps kn sp f fd := by
  refine ⟨ok, ⟨fun s us ws hK h1 h2 => ?_, fun r1 r2 => Vals.append r1 r2⟩, F.kp, g⟩
  obtain ⟨oc, od, dV, kV, doc, pm, an, cdv, ct, osl, rfl, lk, hcd, hD, hK⟩ := F.ex
  rcases hD with ⟨_, rfl⟩ | ⟨e, _⟩
  · exact .of_eq (hb kV doc pm an cdv ct us ws h1 h2)
  · exact absurd rfl e
end
section
variable {X : Cx} {e e1 e2 : Expr} {te te1 te2 : TE} {p p2 pos : Pos}
abbrev rLenX (K : PySem.W.Frag) : List V → Hp → VK → Prop := fun xs H Q => ∃ x n, xs = [x] ∧ LenV K x H n ∧ Q (.int n) H
abbrev rListX (K : PySem.W.Frag) : List V → Hp → VK → Prop := fun xs H Q => ∃ p ys, xs = [.ref p] ∧ (SqL K H p ys ∨ SqT K H p ys) ∧ ∀ l, H l = none → Q (.ref l) (upd H l (.lst ys))
abbrev rTupX (K : PySem.W.Frag) : List V → Hp → VK → Prop := fun xs H Q => ∃ p ys, xs = [.ref p] ∧ ((SqL K H p ys ∧ ∀ l, H l = none → Q (.ref l) (upd H l (.tup ys))) ∨ (SqT K H p ys ∧ Q (.ref p) H))
theorem p_isS (K : PySem.W.Frag) (B : Bi X.mg) (he : PE X e te) (hg : Gl X "isinstance" := by rfl) (hg2 : Gl X "str" := by rfl) (h1 : starEach [e, .Name "str" p2] X.env = (false, eval e X.env) :: starEach [.Name "str" p2] X.env := by rfl) (h2 : starEach [.Name "str" p2] X.env = (false, eval (.Name "str" p2) X.env) :: starEach [] X.env := by rfl) (hK : X.K = K := by rfl) :
    PE X (.Call (.Name "isinstance" p) [e, .Name "str" p2] [] pos) (tCB (rIsi K) (tCons te (tCons (tC (.ty "str")) tNil))) := by
  subst hK
  exact pe_callB call_isi hg B.isinstance boot_isinstance (pa_cons he (pa_cons (pe_bltn (v := .ty "str") hg2 B.str PyProof.Rows.boot_str rfl) pa_nil h2) h1) (by decide) (by decide) h1 (by rw [h2]; rfl)
theorem p_isT (K : PySem.W.Frag) (B : Bi X.mg) (he : PE X e te) (hg : Gl X "isinstance" := by rfl) (hg2 : Gl X "tuple" := by rfl) (h1 : starEach [e, .Name "tuple" p2] X.env = (false, eval e X.env) :: starEach [.Name "tuple" p2] X.env := by rfl) (h2 : starEach [.Name "tuple" p2] X.env = (false, eval (.Name "tuple" p2) X.env) :: starEach [] X.env := by rfl) (hK : X.K = K := by rfl) :
    PE X (.Call (.Name "isinstance" p) [e, .Name "tuple" p2] [] pos) (tCB (rIsi K) (tCons te (tCons (tC (.ty "tuple")) tNil))) := by
  subst hK
  exact pe_callB call_isi hg B.isinstance boot_isinstance (pa_cons he (pa_cons (pe_bltn (v := .ty "tuple") hg2 B.tuple PyProof.Rows.boot_tuple rfl) pa_nil h2) h1) (by decide) (by decide) h1 (by rw [h2]; rfl)
theorem p_len (K : PySem.W.Frag) (B : Bi X.mg) (he : PE X e te) (hg : Gl X "len" := by rfl) (h1 : starEach [e] X.env = (false, eval e X.env) :: starEach [] X.env := by rfl) (hK : X.K = K := by rfl) : PE X (.Call (.Name "len" p) [e] [] pos) (tCB (rLenX K) (tCons te tNil)) := by
  subst hK
  exact pe_callB call_len hg B.len boot_len (pa_cons he pa_nil h1) (by decide) (by decide) h1 rfl
theorem p_all (K : PySem.W.Frag) (B : Bi X.mg) (hc : X.calm = true) (he : PE X e te) (hg : Gl X "all" := by rfl) (h1 : starEach [e] X.env = (false, eval e X.env) :: starEach [] X.env := by rfl) (hK : X.K = K := by rfl) : PE X (.Call (.Name "all" p) [e] [] pos) (tCB (rAll K) (tCons te tNil)) := by
  subst hK
  exact pe_callB (cr_all hc) hg B.all boot_all (pa_cons he pa_nil h1) (by decide) (by decide) h1 rfl
theorem p_any (K : PySem.W.Frag) (B : Bi X.mg) (hc : X.calm = true) (he : PE X e te) (hg : Gl X "any" := by rfl) (h1 : starEach [e] X.env = (false, eval e X.env) :: starEach [] X.env := by rfl) (hK : X.K = K := by rfl) : PE X (.Call (.Name "any" p) [e] [] pos) (tCB (rAny K) (tCons te tNil)) := by
  subst hK
  exact pe_callB (cr_any hc) hg B.any boot_any (pa_cons he pa_nil h1) (by decide) (by decide) h1 rfl
theorem p_sorted (K : PySem.W.Frag) (B : Bi X.mg) (hu : X.A.units + 64 < cLine) (he : PE X e te) (hg : Gl X "sorted" := by rfl) (h1 : starEach [e] X.env = (false, eval e X.env) :: starEach [] X.env := by rfl) (hK : X.K = K := by rfl) : PE X (.Call (.Name "sorted" p) [e] [] pos) (tCB (rSortD K) (tCons te tNil)) := by
  subst hK
  exact pe_callB (cr_sortD hu) hg B.sorted boot_sorted (pa_cons he pa_nil h1) (by decide) (by decide) h1 rfl
theorem p_list (K : PySem.W.Frag) (B : Bi X.mg) (he : PE X e te) (hg : Gl X "list" := by rfl) (h1 : starEach [e] X.env = (false, eval e X.env) :: starEach [] X.env := by rfl) (hK : X.K = K := by rfl) : PE X (.Call (.Name "list" p) [e] [] pos) (tCB (rListX K) (tCons te tNil)) := by
  subst hK
  exact pe_callTy call_list_of hg B.list PyProof.Rows.boot_list (pa_cons he pa_nil h1) (by decide) (by decide) h1 rfl
theorem p_tuple (K : PySem.W.Frag) (B : Bi X.mg) (he : PE X e te) (hg : Gl X "tuple" := by rfl) (h1 : starEach [e] X.env = (false, eval e X.env) :: starEach [] X.env := by rfl) (hK : X.K = K := by rfl) : PE X (.Call (.Name "tuple" p) [e] [] pos) (tCB (rTupX K) (tCons te tNil)) := by
  subst hK
  exact pe_callTy call_tuple_of hg B.tuple PyProof.Rows.boot_tuple (pa_cons he pa_nil h1) (by decide) (by decide) h1 rfl
theorem p_lenset (B : Bi X.mg) (hc : X.calm = true) (hu : X.A.units + 64 < cLine) (he : PE X e te) (hg : Gl X "len" := by rfl) (hg2 : Gl X "set" := by rfl) (h1 : starEach [e] X.env = (false, eval e X.env) :: starEach [] X.env := by rfl)
    (h2 : starEach [.Call (.Name "set" p2) [e] [] pos] X.env = (false, eval (.Call (.Name "set" p2) [e] [] pos) X.env) :: starEach [] X.env := by rfl) {pos2 : Pos} :
    PE X (.Call (.Name "len" p) [.Call (.Name "set" p2) [e] [] pos] [] pos2) (tCB (rLenSet X.prog X.w) (tCons (tCB (rSetD X.K X.prog X.w) (tCons te tNil)) tNil)) :=
  pe_callB cr_lenSet hg B.len boot_len (pa_cons (pe_callTy (cr_setD hc hu) hg2 B.set PyProof.Rows.boot_set (pa_cons he pa_nil h1) (by decide) (by decide) h1 rfl) pa_nil h2) (by decide) (by decide) h2 rfl
theorem p_sortset (B : Bi X.mg) (hc : X.calm = true) (hu : X.A.units + 64 < cLine) (he : PE X e te) (hg : Gl X "sorted" := by rfl) (hg2 : Gl X "set" := by rfl) (h1 : starEach [e] X.env = (false, eval e X.env) :: starEach [] X.env := by rfl)
    (h2 : starEach [.Call (.Name "set" p2) [e] [] pos] X.env = (false, eval (.Call (.Name "set" p2) [e] [] pos) X.env) :: starEach [] X.env := by rfl) {pos2 : Pos} :
    PE X (.Call (.Name "sorted" p) [.Call (.Name "set" p2) [e] [] pos] [] pos2) (tCB (rSortSet X.prog X.w) (tCons (tCB (rSetD X.K X.prog X.w) (tCons te tNil)) tNil)) :=
  pe_callB (cr_sortSet hc hu) hg B.sorted boot_sorted (pa_cons (pe_callTy (cr_setD hc hu) hg2 B.set PyProof.Rows.boot_set (pa_cons he pa_nil h1) (by decide) (by decide) h1 rfl) pa_nil h2) (by decide) (by decide) h2 rfl
theorem q_eqD (K : PySem.W.Frag) (hu : X.A.units + 64 < cLine) (hK : X.K = K := by rfl) : OpR X (compareOp .Eq) (rEqD K) := by
  subst hK; exact op_eqD hu
theorem q_neD (K : PySem.W.Frag) (hu : X.A.units + 64 < cLine) (hK : X.K = K := by rfl) : OpR X (compareOp .NotEq) (rNeD K) := by
  subst hK; exact op_neD hu
theorem q_in (K : PySem.W.Frag) (hK : X.K = K := by rfl) : OpR X (compareOp .In) (rIn K false) := by
  subst hK; exact op_in_seq
theorem q_notin (K : PySem.W.Frag) (hK : X.K = K := by rfl) : OpR X (compareOp .NotIn) (rIn K true) := by
  subst hK; exact op_notIn_seq
theorem q_ixT (K : PySem.W.Frag) (hK : X.K = K := by rfl) : IxR X (rIxT K) := by
  subst hK; exact ix_tup
theorem q_ixL (K : PySem.W.Frag) (hK : X.K = K := by rfl) : IxR X (rIxL K) := by
  subst hK; exact ix_list
theorem q_catA (K : PySem.W.Frag) (hK : X.K = K := by rfl) : OpR X (binaryOp .Add) (rCatA K) := by
  subst hK; exact op_catA
theorem q_slT (K : PySem.W.Frag) (hK : X.K = K := by rfl) : SlR X (rSlA K) := by
  subst hK; exact sl_tupA
theorem q_list (K : PySem.W.Frag) {tg : Expr} (he : PE X e te) (hK : X.K = K := by rfl) : PI X tg e (iList K te) := by
  subst hK; exact pi_list he
theorem q_tup (K : PySem.W.Frag) {tg : Expr} (he : PE X e te) (hK : X.K = K := by rfl) : PI X tg e (iTup K te) := by
  subst hK; exact pi_tup he
/-- f(e), f(e, e1), .. of a def that keeps its promise -/
theorem p_call {x : Str} {j k : Nat} {ps : List Str} {sp : Sp} {f : Addr} {fd : FuncData} {es : List Expr} {ta : TA} (F : Kept X.prog X.w X.K X.mg X.base x k ps sp f fd) (hr : Room j X.A) (ha : PA X (e :: es) ta) (hk : k ≤ j := by first | decide | omega) (hg : Gl X x := by rfl) (hdb : (x == ("__debug__" : Str)) = false := by decide)
    (h1 : starEach (e :: es) X.env = (false, eval e X.env) :: starEach es X.env := by rfl) (hpl : (backTo pos (starEach es X.env)).any (·.1) = false := by rfl) : PE X (.Call (.Name x p) (e :: es) [] pos) (tCall sp [] E0 ta) :=
  pe_call F.ok (hr.mono hk) hg F.mg F.kp F.bd .nil pass0 ha hdb h1 hpl
/-- f(e, .., k = v) -/
theorem p_callK {x kn : Str} {j k n : Nat} {ps : List Str} {sp : Sp} {f : Addr} {fd : FuncData} {es : List Expr} {ta : TA} {kpos : Pos} (F : KeptK X.prog X.w X.K X.mg X.base x k n ps kn sp f fd) (hr : Room j X.A) (ha : PA X (e :: es) ta) (he1 : PE X e1 te1) (hk : k ≤ j := by first | decide | omega) (hg : Gl X x := by rfl) (hdb : (x == ("__debug__" : Str)) = false := by decide)
    (hall : (backToKw pos (keywordEach [⟨some kn, e1, kpos⟩] X.env)).all (·.1.isSome) = true := by rfl) (hks : (backToKw pos (keywordEach [⟨some kn, e1, kpos⟩] X.env)).filterMap (·.1) = [kn] := by rfl)
    (h1 : starEach (e :: es) X.env = (false, eval e X.env) :: starEach es X.env := by rfl) (hpl : ((backTo pos (starEach (e :: es) X.env)).any (·.1) || (backToKw pos (keywordEach [⟨some kn, e1, kpos⟩] X.env)).any (·.1.isNone)) = false := by rfl) :
    PE X (.Call (.Name x p) (e :: es) [⟨some kn, e1, kpos⟩] pos) (tCallN n [kn].length sp (fun vs zs => vs ++ zs) E0 ta (tCons te1 tNil)) :=
  pe_callN F.ok (hr.mono hk) hg F.mg F.kp F.kb pass0 ha (pk_cons he1 pk_nil) hall hks hdb h1 hpl
/-- [e for x in it], [e for x in it if c] -/
theorem p_lc {elt iter : Expr} {x : Str} {px : Pos} {j : Nat} {scope : Scope} {own : List (Str × Nat)} {wi : TI} (hc : X.calm = true) (hN : X.N.Nodup) (hj : X.N[j]? = some x) (hi : PI X (.Name x px) iter wi) (ok : BlkOk X.N X.env.scope scope own)
    (he : ∀ (s : Shared) (H : Hp) (C : Addr) (cl : List (Str × Addr)) (fp : List Addr), PE (X.blk s H scope (compEnvC scope cl C X.env) fp) elt te) (hl : ∀ (s : Shared) (H : Hp) (C : Addr) (cl : List (Str × Addr)) (fp : List Addr), Loc (X.blk s H scope (compEnvC scope cl C X.env) fp).env.scope x := by exact fun _ _ _ _ _ => by first | exact Or.inl rfl | exact Or.inr rfl)
    (hf : ∀ (s : Shared) (H : Hp) (C : Addr) (cl : List (Str × Addr)) (fp : List Addr), (X.blk s H scope (compEnvC scope cl C X.env) fp).fn x = true ∨ (X.blk s H scope (compEnvC scope cl C X.env) fp).env.scope.names.lookup x = some .local := by exact fun _ _ _ _ _ => by first | exact .inl rfl | exact .inr rfl) (hs : ∀ x, foldedSetIterable iter X.env x = pure x := by intro _; rfl) :
    PE X (.ListComp elt [⟨.Name x px, iter, [], 0⟩] scope pos) (tLc wi (gName j) tYes te (own.map (·.2))) :=
  pe_lc hc hN hi ok (fun s H C cl fp => pg_name (i := j) hN hj (hl s H C cl fp) (hf s H C cl fp)) (fun _ _ _ _ _ => pts_nil) he hs
theorem p_lcT {elt iter cnd : Expr} {x : Str} {px : Pos} {j : Nat} {scope : Scope} {own : List (Str × Nat)} {wi : TI} {tt : TT} (hc : X.calm = true) (hN : X.N.Nodup) (hj : X.N[j]? = some x) (hi : PI X (.Name x px) iter wi) (ok : BlkOk X.N X.env.scope scope own)
    (ht : ∀ (s : Shared) (H : Hp) (C : Addr) (cl : List (Str × Addr)) (fp : List Addr), PT (X.blk s H scope (compEnvC scope cl C X.env) fp) cnd tt)
    (he : ∀ (s : Shared) (H : Hp) (C : Addr) (cl : List (Str × Addr)) (fp : List Addr), PE (X.blk s H scope (compEnvC scope cl C X.env) fp) elt te) (hl : ∀ (s : Shared) (H : Hp) (C : Addr) (cl : List (Str × Addr)) (fp : List Addr), Loc (X.blk s H scope (compEnvC scope cl C X.env) fp).env.scope x := by exact fun _ _ _ _ _ => by first | exact Or.inl rfl | exact Or.inr rfl)
    (hf : ∀ (s : Shared) (H : Hp) (C : Addr) (cl : List (Str × Addr)) (fp : List Addr), (X.blk s H scope (compEnvC scope cl C X.env) fp).fn x = true ∨ (X.blk s H scope (compEnvC scope cl C X.env) fp).env.scope.names.lookup x = some .local := by exact fun _ _ _ _ _ => by first | exact .inl rfl | exact .inr rfl) (hs : ∀ x, foldedSetIterable iter X.env x = pure x := by intro _; rfl) :
    PE X (.ListComp elt [⟨.Name x px, iter, [cnd], 0⟩] scope pos) (tLc wi (gName j) tt te (own.map (·.2))) :=
  pe_lc hc hN hi ok (fun s H C cl fp => pg_name (i := j) hN hj (hl s H C cl fp) (hf s H C cl fp)) (fun s H C cl fp => pts_one (ht s H C cl fp)) he hs
theorem p_setlc {elt iter : Expr} {x y : Str} {px py spos : Pos} {i j : Nat} {scope : Scope} {own : List (Str × Nat)} {wi : TI} (hc : X.calm = true) (hN : X.N.Nodup) (hy : X.N[i]? = some y) (hj : X.N[j]? = some x) (hi : PI X (.Name x px) iter wi) (ok : BlkOk X.N X.env.scope scope own)
    (he : ∀ (s : Shared) (H : Hp) (C : Addr) (cl : List (Str × Addr)) (fp : List Addr), PE (X.blk s H scope (compEnvC scope cl C X.env) fp) elt te)
    (hyl : X.env.scope.names.lookup y = some .local := by rfl) (hsw : swapsWith (.ListComp elt [⟨.Name x px, iter, [], 0⟩] scope pos) (some (.Name y py)) spos.line X.env = pure true := by rfl)
    (hl : ∀ (s : Shared) (H : Hp) (C : Addr) (cl : List (Str × Addr)) (fp : List Addr), Loc (X.blk s H scope (compEnvC scope cl C X.env) fp).env.scope x := by exact fun _ _ _ _ _ => by first | exact Or.inl rfl | exact Or.inr rfl)
    (hf : ∀ (s : Shared) (H : Hp) (C : Addr) (cl : List (Str × Addr)) (fp : List Addr), (X.blk s H scope (compEnvC scope cl C X.env) fp).fn x = true ∨ (X.blk s H scope (compEnvC scope cl C X.env) fp).env.scope.names.lookup x = some .local := by exact fun _ _ _ _ _ => by first | exact .inl rfl | exact .inr rfl) (hs : ∀ x, foldedSetIterable iter X.env x = pure x := by intro _; rfl) :
    PS X (.Assign [.Name y py] (.ListComp elt [⟨.Name x px, iter, [], 0⟩] scope pos) spos) (tAsg (tLc wi (gName j) tYes te (own.map (·.2))) (gName i)) :=
  ps_setLc hc hN hy hyl hsw hi ok (fun s H C cl fp => pg_name (i := j) hN hj (hl s H C cl fp) (hf s H C cl fp)) (fun _ _ _ _ _ => pts_nil) he hs
theorem p_setlcT {elt iter cnd : Expr} {x y : Str} {px py spos : Pos} {i j : Nat} {scope : Scope} {own : List (Str × Nat)} {wi : TI} {tt : TT} (hc : X.calm = true) (hN : X.N.Nodup) (hy : X.N[i]? = some y) (hj : X.N[j]? = some x) (hi : PI X (.Name x px) iter wi) (ok : BlkOk X.N X.env.scope scope own)
    (ht : ∀ (s : Shared) (H : Hp) (C : Addr) (cl : List (Str × Addr)) (fp : List Addr), PT (X.blk s H scope (compEnvC scope cl C X.env) fp) cnd tt)
    (he : ∀ (s : Shared) (H : Hp) (C : Addr) (cl : List (Str × Addr)) (fp : List Addr), PE (X.blk s H scope (compEnvC scope cl C X.env) fp) elt te)
    (hyl : X.env.scope.names.lookup y = some .local := by rfl) (hsw : swapsWith (.ListComp elt [⟨.Name x px, iter, [cnd], 0⟩] scope pos) (some (.Name y py)) spos.line X.env = pure true := by rfl)
    (hl : ∀ (s : Shared) (H : Hp) (C : Addr) (cl : List (Str × Addr)) (fp : List Addr), Loc (X.blk s H scope (compEnvC scope cl C X.env) fp).env.scope x := by exact fun _ _ _ _ _ => by first | exact Or.inl rfl | exact Or.inr rfl)
    (hf : ∀ (s : Shared) (H : Hp) (C : Addr) (cl : List (Str × Addr)) (fp : List Addr), (X.blk s H scope (compEnvC scope cl C X.env) fp).fn x = true ∨ (X.blk s H scope (compEnvC scope cl C X.env) fp).env.scope.names.lookup x = some .local := by exact fun _ _ _ _ _ => by first | exact .inl rfl | exact .inr rfl) (hs : ∀ x, foldedSetIterable iter X.env x = pure x := by intro _; rfl) :
    PS X (.Assign [.Name y py] (.ListComp elt [⟨.Name x px, iter, [cnd], 0⟩] scope pos) spos) (tAsg (tLc wi (gName j) tt te (own.map (·.2))) (gName i)) :=
  ps_setLc hc hN hy hyl hsw hi ok (fun s H C cl fp => pg_name (i := j) hN hj (hl s H C cl fp) (hf s H C cl fp)) (fun s H C cl fp => pts_one (ht s H C cl fp)) he hs
theorem p_lc2 {elt iter iter1 : Expr} {x y : Str} {px py : Pos} {j j1 : Nat} {scope : Scope} {own : List (Str × Nat)} {vs1 : List Nat} {wi wi1 : TI} (hc : X.calm = true) (hN : X.N.Nodup) (hj : X.N[j]? = some x) (hj1 : X.N[j1]? = some y) (hi : PI X (.Name x px) iter wi) (ok : BlkOk X.N X.env.scope scope own)
    (hv : ∀ i ∈ vs1, i ∈ own.map (·.2))
    (hi1 : ∀ (s : Shared) (H : Hp) (C : Addr) (cl : List (Str × Addr)) (fp : List Addr), PI (X.blk s H scope (compEnvC scope cl C X.env) fp) (.Name y py) iter1 wi1)
    (he : ∀ (s : Shared) (H : Hp) (C : Addr) (cl : List (Str × Addr)) (fp : List Addr), PE (X.blk s H scope (compEnvC scope cl C X.env) fp) elt te)
    (hl : ∀ (s : Shared) (H : Hp) (C : Addr) (cl : List (Str × Addr)) (fp : List Addr), Loc (X.blk s H scope (compEnvC scope cl C X.env) fp).env.scope x := by exact fun _ _ _ _ _ => by first | exact Or.inl rfl | exact Or.inr rfl)
    (hf : ∀ (s : Shared) (H : Hp) (C : Addr) (cl : List (Str × Addr)) (fp : List Addr), (X.blk s H scope (compEnvC scope cl C X.env) fp).fn x = true ∨ (X.blk s H scope (compEnvC scope cl C X.env) fp).env.scope.names.lookup x = some .local := by exact fun _ _ _ _ _ => by first | exact .inl rfl | exact .inr rfl)
    (hl1 : ∀ (s : Shared) (H : Hp) (C : Addr) (cl : List (Str × Addr)) (fp : List Addr), Loc (X.blk s H scope (compEnvC scope cl C X.env) fp).env.scope y := by exact fun _ _ _ _ _ => by first | exact Or.inl rfl | exact Or.inr rfl)
    (hf1 : ∀ (s : Shared) (H : Hp) (C : Addr) (cl : List (Str × Addr)) (fp : List Addr), (X.blk s H scope (compEnvC scope cl C X.env) fp).fn y = true ∨ (X.blk s H scope (compEnvC scope cl C X.env) fp).env.scope.names.lookup y = some .local := by exact fun _ _ _ _ _ => by first | exact .inl rfl | exact .inr rfl)
    (hs : ∀ x, foldedSetIterable iter X.env x = pure x := by intro _; rfl) (hs1 : ∀ env x, foldedSetIterable iter1 env x = pure x := by intro _ _; rfl) :
    PE X (.ListComp elt [⟨.Name x px, iter, [], 0⟩, ⟨.Name y py, iter1, [], 0⟩] scope pos) (tLc2 wi (gName j) tYes wi1 (gName j1) tYes te (own.map (·.2)) vs1) :=
  pe_lc2 hc hN hi ok hv (fun s H C cl fp => pg_name (i := j) hN hj (hl s H C cl fp) (hf s H C cl fp)) (fun _ _ _ _ _ => pts_nil) hi1 (fun s H C cl fp => pg_name (i := j1) hN hj1 (hl1 s H C cl fp) (hf1 s H C cl fp)) (fun _ _ _ _ _ => pts_nil) he hs hs1
end
/-! ### what they evaluate to -/
section
variable {K : PySem.W.Frag} {P : Program} {w : World} {σ : L2.St} {Hb : Hp} {te te1 te2 : TE} {d : PyData} {ds : List PyData}
theorem e_len {n : Nat} (h : EvD K te σ Hb d) (hd : dlen d = some n) (hz : n ≤ 100000) : EvD K (tCB (rLenX K) (tCons te tNil)) σ Hb (.int n) := evd_cb (eva_cons h eva_nil) (rcd_len hd hz)
theorem e_all {bs : List Bool} (h : EvN K te σ Hb (bools bs)) : EvD K (tCB (rAll K) (tCons te tNil)) σ Hb (.bool (bs.all id)) := evd_cb (eva_cons h.asD eva_nil) rcd_all
theorem e_any {bs : List Bool} (h : EvN K te σ Hb (bools bs)) : EvD K (tCB (rAny K) (tCons te tNil)) σ Hb (.bool (bs.any id)) := evd_cb (eva_cons h.asD eva_nil) rcd_any
theorem e_tup (h : EvD K te σ Hb (.list ds)) : EvD K (tCB (rTupX K) (tCons te tNil)) σ Hb (.tuple ds) := evd_cb (eva_cons h eva_nil) rcd_tuple
theorem e_sort (h : EvD K te σ Hb (.list ds)) (h1 : AllAlike ds) (h2 : Sortable ds) (h3 : ∀ d ∈ ds, d.depth ≤ 50 ∧ nd d = true) : EvN K (tCB (rSortD K) (tCons te tNil)) σ Hb (ds.mergeSort (dataLe false id)) := evn_sort (eva_cons h eva_nil) h1 h2 h3
theorem e_list (h : EvD K te σ Hb d) (hd : d = .list ds ∨ d = .tuple ds) : EvN K (tCB (rListX K) (tCons te tNil)) σ Hb ds := evn_list (eva_cons h eva_nil) hd
/-- a op b op c of ints -/
theorem e_chain {r r' : R2} {tc : TE} {a b c : PyData} {p q : Bool} (ha : EvD K te σ Hb a) (hb : EvD K te1 σ Hb b) (hr : RD K r a b (.bool p)) (hc : EvD K tc σ Hb c) (hr' : RD K r' b c (.bool q)) : EvD K (tChain r r' te te1 tc) σ Hb (.bool (p && q)) := fun H e Q z =>
  ha H e _ fun x H1 H2 k1 hx => hb.mono k1.bas H2 k1.sub _ fun y H3 H4 k2 hy => hr x y H3 H4 k2.sub (dp_mono k2.bas a x hx) hy _ fun v H5 H6 k3 hv => by
    cases hv
    refine ⟨p, rfl, ?_⟩
    cases p with
    | false => exact z _ H5 H6 ((k1.trans k2).trans k3) (.bl false)
    | true =>
      show tc σ H6 _
      exact (hc.mono ((k1.bas.trans k2.bas).trans k3.bas)) H6 k3.sub _ fun u H7 H8 k4 hu => hr' y u H7 H8 k4.sub (dp_mono (k3.bas.trans k4.bas) b y hy) hu Q fun v2 H9 H10 k5 hv2 => z v2 H9 H10 ((((k1.trans k2).trans k3).trans k4).trans k5) hv2
theorem dp1 {vs : List V} {a : PyData} (h : DpAll K Hb vs [a]) : ∃ u, vs = [u] ∧ Dp K Hb u a := by
  cases h with
  | cons h1 t => cases t; exact ⟨_, rfl, h1⟩
theorem dp2 {vs : List V} {a b : PyData} (h : DpAll K Hb vs [a, b]) : ∃ u v, vs = [u, v] ∧ Dp K Hb u a ∧ Dp K Hb v b := by
  cases h with
  | cons h1 t => obtain ⟨v, rfl, h2⟩ := dp1 t; exact ⟨_, _, rfl, h1, h2⟩
theorem dp3 {vs : List V} {a b c : PyData} (h : DpAll K Hb vs [a, b, c]) : ∃ u v w, vs = [u, v, w] ∧ Dp K Hb u a ∧ Dp K Hb v b ∧ Dp K Hb w c := by
  cases h with
  | cons h1 t => obtain ⟨v, w, rfl, h2, h3⟩ := dp2 t; exact ⟨_, _, _, rfl, h1, h2, h3⟩
theorem dp4 {vs : List V} {a b c d : PyData} (h : DpAll K Hb vs [a, b, c, d]) : ∃ u v w x, vs = [u, v, w, x] ∧ Dp K Hb u a ∧ Dp K Hb v b ∧ Dp K Hb w c ∧ Dp K Hb x d := by
  cases h with
  | cons h1 t => obtain ⟨v, w, x, rfl, h2, h3, h4⟩ := dp3 t; exact ⟨_, _, _, _, rfl, h1, h2, h3, h4⟩
theorem dp6 {vs : List V} {a b c d x y : PyData} (h : DpAll K Hb vs [a, b, c, d, x, y]) : ∃ v1 v2 v3 v4 v5 v6, vs = [v1, v2, v3, v4, v5, v6] ∧ Dp K Hb v1 a ∧ Dp K Hb v2 b ∧ Dp K Hb v3 c ∧ Dp K Hb v4 d ∧ Dp K Hb v5 x ∧ Dp K Hb v6 y := by
  cases h with
  | cons h1 t => cases t with
    | cons h2 t => obtain ⟨v, w, x, z, rfl, h3⟩ := dp4 t; exact ⟨_, _, _, _, _, _, rfl, h1, h2, h3⟩
theorem sd_while {c : TT} {tb : TS} {D : Ends} {H : Hp} (W : Nat → L2.St → Hp → Hp → Prop) (m0 : Nat) (h0 : W m0 σ Hb H) (hx : ∀ m σ' Hc H', W m σ' Hc H' → Ex Hc H')
    (ht : ∀ m σ' Hc H', W m σ' Hc H' → ∃ b, EvT c σ' Hc b ∧ (b = true → ∀ H1, Ex H' H1 → tb { D with nx := fun σ2 H2 => ∃ m' Hd, m' < m ∧ W m' σ2 Hd H2, ct := fun σ2 H2 => ∃ m' Hd, m' < m ∧ W m' σ2 Hd H2, bk := D.nx } σ' H1) ∧ (b = false → ∀ H1, Ex H' H1 → D.nx σ' H1)) : tWhile c tb D σ H := by
  refine ⟨fun m σ' H' => ∃ Hc, W m σ' Hc H', ⟨m0, Hb, h0⟩, ?_⟩
  rintro m σ' H' ⟨Hc, w⟩
  obtain ⟨b, e, h1, h2⟩ := ht m σ' Hc H' w
  refine e H' (hx _ _ _ _ w) _ fun H1 e1 => ?_
  cases b with
  | true => exact ⟨_, fun σ2 H2 ⟨m', Hd, l, p⟩ => ⟨m', l, Hd, p⟩, h1 rfl H1 e1⟩
  | false => exact h2 rfl H1 e1
theorem isi_tS {ds : List PyData} : isi "str" (.tuple ds) = some false := by
  show kitB "tuple" "str" = _
  decide +kernel
theorem isi_sT {x : Str} : isi "tuple" (.str x) = some false := by
  show kitB "str" "tuple" = _
  decide +kernel
theorem isi_tT {ds : List PyData} : isi "tuple" (.tuple ds) = some true := by
  show kitB "tuple" "tuple" = _
  decide +kernel
theorem isi_sS {x : Str} : isi "str" (.str x) = some true := by
  show kitB "str" "str" = _
  decide +kernel
theorem atI_map {α β : Type} (g : α → β) {xs : List α} {j : Nat} {x : α} {i : Int} (h : xs[j]? = some x) (hi : i = (j : Int)) : atI (xs.map g) i = some (g x) := by
  rw [hi]
  exact atI_nat (by rw [List.getElem?_map, h]; rfl)
theorem spD_never {P : Program} {w : World} {mg : Str → Option Value} {base : Heap} {CX : CXT} {k : Nat} {f : Addr} {fd : FuncData} {ps : List Str} {ι : Type} {ok : ι → Prop} {arg : ι → List PyData} {res : ι → PyData} (h : ∀ i, ¬ ok i) : FnOk P w K mg base CX k f fd ps (spD K ok arg res) :=
  ⟨fun vs H Q E z => absurd z fun ⟨i, _, o, _⟩ => h i o, fun A outer s H args us vs Q E _ _ _ _ z => absurd z fun ⟨i, _, o, _⟩ => h i o⟩
/-! promises of a new list -/
def spL (K : PySem.W.Frag) {ι : Type} (ok : ι → Prop) (arg : ι → List PyData) (res : ι → List PyData) : Sp := fun vs H Q _ =>
  ∃ (i : ι) (Hb : Hp), ok i ∧ Ex Hb H ∧ DpAll K Hb vs (arg i) ∧ ∀ p xs Hb' H', Kn Hb H Hb' H' → H p = none → Hb' p = none → H' p = some (.lst xs) → DpAll K Hb' xs (res i) → Q (.ref p) H'
theorem spL_len {ι : Type} {ok : ι → Prop} {arg : ι → List PyData} {res : ι → List PyData} {vs : List V} {H : Hp} {Q : VK} {E : XK} {n : Nat} (h : spL K ok arg res vs H Q E) (hl : ∀ i, (arg i).length = n) : vs.length = n := by
  obtain ⟨i, Hb, _, _, hv, _⟩ := h
  rw [dpAll_len hv]; exact hl i
theorem evn_call {ι : Type} {ok : ι → Prop} {arg : ι → List PyData} {res : ι → List PyData} {E : XK} {tr : TA} (h : EvA K tr σ Hb ds) (i : ι) (ho : ok i) (ea : ds = arg i) : EvN K (tCall (spL K ok arg res) [] E tr) σ Hb (res i) := fun H e Q q =>
  h H e _ fun vs H1 H2 k hv => ⟨i, H1, ho, k.sub, by rw [List.append_nil, ← ea]; exact hv, fun p xs H3 H4 k2 n1 n2 c2 a2 => q p xs H3 H4 (k.trans k2) (none_back k.cur n1) n2 c2 a2⟩
theorem sd_retN {H : Hp} {D : Ends} (h : EvN K te σ Hb ds) (e : Ex Hb H) (k : ∀ p xs Hb' H', Kn Hb H Hb' H' → H p = none → Hb' p = none → H' p = some (.lst xs) → DpAll K Hb' xs ds → D.rt (.ref p) H') : tRet te D σ H := h H e _ k
theorem spL_never {P : Program} {w : World} {mg : Str → Option Value} {base : Heap} {CX : CXT} {k : Nat} {f : Addr} {fd : FuncData} {ps : List Str} {ι : Type} {ok : ι → Prop} {arg : ι → List PyData} {res : ι → List PyData} (h : ∀ i, ¬ ok i) : FnOk P w K mg base CX k f fd ps (spL K ok arg res) :=
  ⟨fun vs H Q E z => absurd z fun ⟨i, _, o, _⟩ => h i o, fun A outer s H args us vs Q E _ _ _ _ z => absurd z fun ⟨i, _, o, _⟩ => h i o⟩
theorem evn_callK {ι : Type} {ok : ι → Prop} {arg : ι → List PyData} {res : ι → List PyData} {E : XK} {tr : TA} {n : Nat} (h : EvA K tr σ Hb ds) (h1 : EvD K te1 σ Hb d) (i : ι) (ho : ok i) (hn : ds.length = n) (ea : ds ++ [d] = arg i) :
    EvN K (tCallN n 1 (spL K ok arg res) (fun vs zs => vs ++ zs) E tr (tCons te1 tNil)) σ Hb (res i) := fun H e Q q =>
  h H e _ fun vs H1 H2 k hv => (h1.mono k.bas) H2 k.sub _ fun v H3 H4 k2 hv2 => ⟨by rw [dpAll_len hv]; exact hn, rfl, i, H3, ho, k2.sub, by rw [← ea]; exact dpAll_app (dpAll_mono k2.bas _ _ hv) (dpAll_one hv2), fun p xs H5 H6 k3 n1 n2 c2 a2 => q p xs H5 H6 ((k.trans k2).trans k3) (none_back (k.trans k2).cur n1) n2 c2 a2⟩
theorem evd_callK {ι : Type} {ok : ι → Prop} {arg : ι → List PyData} {res : ι → PyData} {E : XK} {tr : TA} {n : Nat} (h : EvA K tr σ Hb ds) (h1 : EvD K te1 σ Hb d) (i : ι) (ho : ok i) (hn : ds.length = n) (ea : ds ++ [d] = arg i) :
    EvD K (tCallN n 1 (spD K ok arg res) (fun vs zs => vs ++ zs) E tr (tCons te1 tNil)) σ Hb (res i) := fun H e Q q =>
  h H e _ fun vs H1 H2 k hv => (h1.mono k.bas) H2 k.sub _ fun v H3 H4 k2 hv2 => ⟨by rw [dpAll_len hv]; exact hn, rfl, i, H3, ho, k2.sub, by rw [← ea]; exact dpAll_app (dpAll_mono k2.bas _ _ hv) (dpAll_one hv2), fun v H5 H6 k3 a2 => q v H5 H6 ((k.trans k2).trans k3) a2⟩
/-- with a default behind the values -/
theorem evn_callD {ι : Type} {ok : ι → Prop} {arg : ι → List PyData} {res : ι → List PyData} {E : XK} {tr : TA} {b : Bool} (h : EvA K tr σ Hb ds) (i : ι) (ho : ok i) (ea : ds ++ [.bool b] = arg i) : EvN K (tCall (spL K ok arg res) [.bl b] E tr) σ Hb (res i) := fun H e Q q =>
  h H e _ fun vs H1 H2 k hv => ⟨i, H1, ho, k.sub, by rw [← ea]; exact dpAll_app hv (dpAll_one (.bl b)), fun p xs H3 H4 k2 n1 n2 c2 a2 => q p xs H3 H4 (k.trans k2) (none_back k.cur n1) n2 c2 a2⟩
end
end Jt

set_option Elab.async false
set_option linter.all false
set_option maxRecDepth 100000
set_option maxHeartbeats 4000000
/-! Trees and lots as data: equality, order, sorting. -/
namespace Jt
open PySem PySem.Spec PyProof.Rows L2 PySem.W
structure Nu (nu : Nat → Str) : Prop where
  mono : Mono nu
  ok : ∀ i, PyData.strOk (nu i) = true
theorem nbeq_of {i j : Nat} (h : i ≠ j) : Nat.beq i j = false := Bool.eq_false_iff.mpr fun e => h (Nat.eq_of_beq_eq_true e)
theorem nbeq_not {i j : Nat} (h : Nat.beq i j = false) : i ≠ j := fun e => by rw [e, Nat.beq_refl] at h; cases h
theorem eqB_eq : ∀ a b : List Nat, eqB a b = decide (a = b)
  | [], [] => rfl
  | [], _ :: _ => rfl
  | _ :: _, [] => rfl
  | i :: a, j :: b => by
    show cond (Nat.beq i j) (eqB a b) false = _
    by_cases h : i = j
    · subst h
      rw [Nat.beq_refl, eqB_eq a b]
      simp
    · have e : Nat.beq i j = false := nbeq_of h
      rw [e]
      simp [h]
theorem eqB_self (a : List Nat) : eqB a a = true := by rw [eqB_eq]; simp
theorem eqB_iff {a b : List Nat} : eqB a b = true ↔ a = b := by rw [eqB_eq, decide_eq_true_eq]
theorem memB_eq (i : Nat) : ∀ l : List Nat, memB i l = decide (i ∈ l)
  | [] => rfl
  | j :: r => by
    show cond (Nat.beq i j) true (memB i r) = _
    by_cases h : i = j
    · subst h; rw [Nat.beq_refl]; simp
    · have e : Nat.beq i j = false := nbeq_of h
      rw [e, memB_eq i r]
      simp [h]
theorem memL_eq (i : List Nat) : ∀ l : List (List Nat), memL i l = decide (i ∈ l)
  | [] => rfl
  | j :: r => by
    show cond (eqB i j) true (memL i r) = _
    rw [eqB_eq, memL_eq i r]
    by_cases h : i = j
    · subst h; simp
    · simp [h]
theorem nodupL_iff : ∀ {l : List (List Nat)}, nodupL l = true ↔ l.Nodup
  | [] => ⟨fun _ => List.nodup_nil, fun _ => rfl⟩
  | i :: r => by
    show cond (memL i r) false (nodupL r) = true ↔ _
    rw [memL_eq, List.nodup_cons]
    by_cases h : i ∈ r
    · simp [h]
    · simp [h, nodupL_iff]
theorem leB_eq : ∀ a b : List Nat, leB a b = leL a b
  | [], b => by
    unfold leL
    exact (decide_eq_true (List.nil_le b)).symm
  | i :: a, [] => by
    unfold leL
    refine (decide_eq_false fun h => ?_).symm
    exact List.not_lt.mpr h (List.nil_lt_cons i a)
  | i :: a, j :: b => by
    show cond (Nat.beq i j) (leB a b) (Nat.blt i j) = _
    unfold leL
    by_cases h : i = j
    · subst h
      rw [Nat.beq_refl, leB_eq a b]
      unfold leL
      show decide (a ≤ b) = decide (i :: a ≤ i :: b)
      rw [Bool.eq_iff_iff, decide_eq_true_eq, decide_eq_true_eq, List.cons_le_cons_iff]
      exact ⟨fun z => .inr ⟨rfl, z⟩, fun z => z.elim (fun z => absurd z (Nat.lt_irrefl _)) fun z => z.2⟩
    · have e : Nat.beq i j = false := nbeq_of h
      rw [e]
      show Nat.blt i j = _
      rw [Bool.eq_iff_iff, Nat.blt_eq, decide_eq_true_eq, List.cons_le_cons_iff]
      exact ⟨.inl, fun z => z.elim id fun z => absurd z.1 h⟩
theorem insN_perm (i : Nat) : ∀ l, (insN i l).Perm (i :: l)
  | [] => .refl _
  | j :: r => by
    show (cond (Nat.ble i j) (i :: j :: r) (j :: insN i r)).Perm _
    cases Nat.ble i j with
    | true => exact .refl _
    | false => exact ((insN_perm i r).cons j).trans (.swap i j r)
theorem sortN_perm : ∀ l, (sortN l).Perm l
  | [] => .refl _
  | i :: r => (insN_perm i (sortN r)).trans ((sortN_perm r).cons i)
theorem insN_sorted (i : Nat) : ∀ l, List.Pairwise (fun a b => leN a b = true) l → List.Pairwise (fun a b => leN a b = true) (insN i l)
  | [], _ => List.pairwise_singleton _ _
  | j :: r, h => by
    show List.Pairwise _ (cond (Nat.ble i j) (i :: j :: r) (j :: insN i r))
    have h1 := List.pairwise_cons.mp h
    cases e : Nat.ble i j with
    | true =>
      have hij : i ≤ j := Nat.le_of_ble_eq_true e
      refine List.pairwise_cons.mpr ⟨fun x hx => decide_eq_true ?_, h⟩
      rcases List.mem_cons.mp hx with z | z
      · rw [z]; exact hij
      · exact Nat.le_trans hij (of_decide_eq_true (h1.1 x z))
    | false =>
      have hij : ¬ i ≤ j := fun q => by rw [Nat.ble_eq_true_of_le q] at e; cases e
      refine List.pairwise_cons.mpr ⟨fun x hx => decide_eq_true ?_, insN_sorted i r h1.2⟩
      rcases List.mem_cons.mp ((insN_perm i r).mem_iff.mp hx) with z | z
      · rw [z]; omega
      · exact of_decide_eq_true (h1.1 x z)
theorem sortN_sorted : ∀ l, List.Pairwise (fun a b => leN a b = true) (sortN l)
  | [] => .nil
  | i :: r => insN_sorted i _ (sortN_sorted r)
theorem leN_trans (a b c : Nat) (h1 : leN a b = true) (h2 : leN b c = true) : leN a c = true := decide_eq_true (Nat.le_trans (of_decide_eq_true h1) (of_decide_eq_true h2))
theorem leN_total (a b : Nat) : (leN a b || leN b a) = true := by
  rcases Nat.le_total a b with h | h
  · rw [show leN a b = true from decide_eq_true h]; rfl
  · rw [show leN b a = true from decide_eq_true h, Bool.or_true]
theorem sortN_eq (l : List Nat) : l.mergeSort leN = sortN l :=
  (Srt.the_of_perm leN leN_trans leN_total (fun x y h1 h2 => Nat.le_antisymm (of_decide_eq_true h1) (of_decide_eq_true h2)) (sortN_perm l) (sortN_sorted l)).symm
theorem insL_perm (i : List Nat) : ∀ l, (insL i l).Perm (i :: l)
  | [] => .refl _
  | j :: r => by
    show (cond (leB i j) (i :: j :: r) (j :: insL i r)).Perm _
    cases leB i j with
    | true => exact .refl _
    | false => exact ((insL_perm i r).cons j).trans (.swap i j r)
theorem sortL_perm : ∀ l, (sortL l).Perm l
  | [] => .refl _
  | i :: r => (insL_perm i (sortL r)).trans ((sortL_perm r).cons i)
theorem insL_sorted (i : List Nat) : ∀ l, List.Pairwise (fun a b => leL a b = true) l → List.Pairwise (fun a b => leL a b = true) (insL i l)
  | [], _ => List.pairwise_singleton _ _
  | j :: r, h => by
    show List.Pairwise _ (cond (leB i j) (i :: j :: r) (j :: insL i r))
    have h1 := List.pairwise_cons.mp h
    rw [leB_eq]
    cases e : leL i j with
    | true =>
      refine List.pairwise_cons.mpr ⟨fun x hx => ?_, h⟩
      rcases List.mem_cons.mp hx with z | z
      · rw [z]; exact e
      · exact leL_trans _ _ _ e (h1.1 x z)
    | false =>
      have hij : leL j i = true := by
        have := leL_total i j
        rw [e] at this
        exact this
      refine List.pairwise_cons.mpr ⟨fun x hx => ?_, insL_sorted i r h1.2⟩
      rcases List.mem_cons.mp ((insL_perm i r).mem_iff.mp hx) with z | z
      · rw [z]; exact hij
      · exact h1.1 x z
theorem sortL_sorted : ∀ l, List.Pairwise (fun a b => leL a b = true) (sortL l)
  | [] => .nil
  | i :: r => insL_sorted i _ (sortL_sorted r)
theorem sortL_eq (l : List (List Nat)) : l.mergeSort leL = sortL l :=
  (Srt.the_of_perm leL leL_trans leL_total (fun x y => leL_anti x y) (sortL_perm l) (sortL_sorted l)).symm
/-! shapes -/
section
variable {nu : Nat → Str}
theorem canLay_strs (N : Nu nu) : ∀ l : List Nat, PyData.canLayAll0 ((l.map nu).map .str) = true
  | [] => by simp [PyData.canLayAll0]
  | i :: l => by
    rw [List.map_cons, List.map_cons]
    simp only [PyData.canLayAll0, PyData.canLay0, Bool.and_eq_true]
    exact ⟨N.ok i, canLay_strs N l⟩
theorem shaped_nm (N : Nu nu) (i : Nat) : SeqAt.shaped (nmD nu i) = true := by
  unfold SeqAt.shaped
  simp [PyData.canLay0, PyData.depth, N.ok i]
theorem shaped_lot (N : Nu nu) (l : List Nat) : SeqAt.shaped (lotN nu l) = true := by
  unfold SeqAt.shaped
  have h := depth_lot (l.map nu)
  rw [Bool.and_eq_true, decide_eq_true_eq]
  exact ⟨by show PyData.canLay0 (.tuple _) = true; rw [PyData.canLay0]; exact canLay_strs N l, Nat.le_trans h (by decide)⟩
theorem nd_strs : ∀ l : List Str, ndAll (l.map .str) = true
  | [] => by simp [ndAll]
  | i :: l => by simp [ndAll, nd, nd_strs l]
theorem nd_lot (l : List Nat) : nd (lotN nu l) = true := by
  show nd (.tuple _) = true
  rw [nd]
  exact nd_strs _
theorem nd_lots : ∀ ls : List (List Nat), ndAll (lotsD nu ls) = true
  | [] => by simp [ndAll]
  | l :: ls => by
    show ndAll (lotN nu l :: lotsD nu ls) = true
    rw [ndAll, nd_lot, nd_lots ls]
    rfl
theorem canLay_lots (N : Nu nu) : ∀ ls : List (List Nat), PyData.canLayAll0 (lotsD nu ls) = true
  | [] => by simp [PyData.canLayAll0]
  | l :: ls => by
    show PyData.canLayAll0 (lotN nu l :: lotsD nu ls) = true
    have h : PyData.canLay0 (lotN nu l) = true := by show PyData.canLay0 (.tuple _) = true; rw [PyData.canLay0]; exact canLay_strs N l
    rw [PyData.canLayAll0, h, canLay_lots N ls]
    rfl
theorem depth_lotN (l : List Nat) : (lotN nu l).depth = 1 := by
  show (PyData.tuple ((l.map nu).map .str)).depth = 1
  simp only [PyData.depth, depth_strs]
theorem depth_lots : ∀ ls : List (List Nat), PyData.depthAll (lotsD nu ls) ≤ 1
  | [] => by simp [PyData.depthAll]
  | l :: ls => by
    show PyData.depthAll (lotN nu l :: lotsD nu ls) ≤ 1
    rw [PyData.depthAll, depth_lotN]
    have := depth_lots ls
    omega
theorem shaped_lots (N : Nu nu) (ls : List (List Nat)) : SeqAt.shaped (.list (lotsD nu ls)) = true := by
  unfold SeqAt.shaped
  rw [Bool.and_eq_true, decide_eq_true_eq, PyData.canLay0, PyData.depth]
  have := depth_lots (nu := nu) ls
  exact ⟨canLay_lots N ls, by omega⟩
theorem eqv_strs (N : Nu nu) : ∀ a b : List Nat, PyData.eqvAll ((a.map nu).map .str) ((b.map nu).map .str) = eqB a b
  | [], [] => by simp [PyData.eqvAll, eqB]
  | [], _ :: _ => by simp [PyData.eqvAll, eqB]
  | _ :: _, [] => by simp [PyData.eqvAll, eqB]
  | i :: a, j :: b => by
    have h := eqv_strs N a b
    simp only [List.map_cons, PyData.eqvAll, PyData.eqv, h]
    rw [N.mono.beq]
    show _ = cond (Nat.beq i j) (eqB a b) false
    cases e : Nat.beq i j with
    | true => rw [Nat.eq_of_beq_eq_true e]; simp
    | false => simp [nbeq_not e]
theorem eqv_lot (N : Nu nu) (a b : List Nat) : PyData.eqv (lotN nu a) (lotN nu b) = eqB a b := by
  show PyData.eqv (.tuple _) (.tuple _) = _
  rw [PyData.eqv]
  exact eqv_strs N a b
def eqLs : List (List Nat) → List (List Nat) → Bool
  | [], [] => true
  | a :: x, b :: y => eqB a b && eqLs x y
  | _, _ => false
theorem eqLs_eq : ∀ a b : List (List Nat), eqLs a b = decide (a = b)
  | [], [] => rfl
  | [], _ :: _ => rfl
  | _ :: _, [] => rfl
  | a :: x, b :: y => by
    show (eqB a b && eqLs x y) = _
    rw [eqB_eq, eqLs_eq x y]
    by_cases h : a = b <;> simp [h]
theorem eqv_lots (N : Nu nu) : ∀ a b : List (List Nat), PyData.eqvAll (lotsD nu a) (lotsD nu b) = eqLs a b
  | [], [] => by simp [PyData.eqvAll, eqLs]
  | [], _ :: _ => by simp [PyData.eqvAll, eqLs]
  | _ :: _, [] => by simp [PyData.eqvAll, eqLs]
  | a :: x, b :: y => by
    show PyData.eqvAll (lotN nu a :: lotsD nu x) (lotN nu b :: lotsD nu y) = (eqB a b && eqLs x y)
    rw [PyData.eqvAll, eqv_lot N, eqv_lots N x y]
theorem tree_shape (N : Nu nu) : ∀ t : T, PyData.canLay0 (treeD nu t) = true ∧ (treeD nu t).depth = depthT t ∧ nd (treeD nu t) = true
  | .leaf i => ⟨by simp [treeD, PyData.canLay0, N.ok i], by simp [treeD, PyData.depth, depthT], by simp [treeD, nd]⟩
  | .fork l r => by
    obtain ⟨a1, a2, a3⟩ := tree_shape N l
    obtain ⟨b1, b2, b3⟩ := tree_shape N r
    refine ⟨?_, ?_, ?_⟩
    · simp [treeD, PyData.canLay0, PyData.canLayAll0, a1, b1]
    · simp [treeD, PyData.depth, PyData.depthAll, a2, b2, depthT]
    · simp [treeD, nd, ndAll, a3, b3]
theorem shaped_tree (N : Nu nu) {t : T} (h : depthT t ≤ 64) : SeqAt.shaped (treeD nu t) = true := by
  obtain ⟨a1, a2, _⟩ := tree_shape N t
  unfold SeqAt.shaped
  rw [a1, a2]
  simpa using h
theorem eqv_tree (N : Nu nu) : ∀ a b : T, PyData.eqv (treeD nu a) (treeD nu b) = beqT a b
  | .leaf i, .leaf j => by
    simp only [treeD, PyData.eqv]
    rw [N.mono.beq]
    show _ = Nat.beq i j
    cases e : Nat.beq i j with
    | true => rw [Nat.eq_of_beq_eq_true e]; simp
    | false => simp [nbeq_not e]
  | .leaf i, .fork _ _ => by simp [treeD, PyData.eqv, beqT]
  | .fork _ _, .leaf _ => by simp [treeD, PyData.eqv, beqT]
  | .fork a b, .fork c d => by
    have h1 := eqv_tree N a c
    have h2 := eqv_tree N b d
    simp [treeD, PyData.eqv, PyData.eqvAll, beqT, h1, h2]
theorem eqv_opt (N : Nu nu) : ∀ a b : Option T, PyData.eqv (optD nu a) (optD nu b) = beqO a b
  | none, none => by simp [optD, PyData.eqv, beqO]
  | none, some (.leaf i) => by simp [optD, treeD, PyData.eqv, beqO]
  | none, some (.fork _ _) => by simp [optD, treeD, PyData.eqv, beqO]
  | some (.leaf i), none => by simp [optD, treeD, PyData.eqv, beqO]
  | some (.fork _ _), none => by simp [optD, treeD, PyData.eqv, beqO]
  | some a, some b => eqv_tree N a b
theorem dlen_lot (l : List Nat) : dlen (lotN nu l) = some l.length := by
  show some ((l.map nu).map PyData.str).length = _
  rw [List.length_map, List.length_map]
theorem dlen_lots (ls : List (List Nat)) : dlen (.list (lotsD nu ls)) = some ls.length ∧ dlen (.tuple (lotsD nu ls)) = some ls.length := by
  constructor
  · show some (lotsD nu ls).length = _
    rw [List.length_map]
  · show some (lotsD nu ls).length = _
    rw [List.length_map]
theorem mem_nu (m : Mono nu) (i : Nat) (l : List Nat) : decide (nu i ∈ l.map nu) = memB i l := by
  rw [memB_eq, Bool.eq_iff_iff, decide_eq_true_eq, decide_eq_true_eq, List.mem_map]
  exact ⟨fun ⟨j, h, e⟩ => by rw [← m.inj e]; exact h, fun h => ⟨i, h, rfl⟩⟩
theorem lotN_eq (l : List Nat) : PyData.tuple (l.map (nmD nu)) = lotN nu l := by
  show _ = PyData.tuple ((l.map nu).map .str)
  rw [List.map_map]
  rfl
theorem below_len : ∀ t : T, (below t).length + 1 ≤ (leaves t).length
  | .leaf i => Nat.le_refl _
  | .fork l r => by
    have h1 := below_len l
    have h2 := below_len r
    show (namesT (.fork l r) :: (below l ++ below r)).length + 1 ≤ (leaves l ++ leaves r).length
    rw [List.length_cons, List.length_append, List.length_append]
    omega
theorem names_len (t : T) : (namesT t).length = (leaves t).length := (sortN_perm _).length_eq
theorem leaves_pos (t : T) : 1 ≤ (leaves t).length := by have := below_len t; omega
theorem below_ne : ∀ (t : T) (l : List Nat), l ∈ below t → l ≠ []
  | .leaf i, l, h => by cases h
  | .fork a b, l, h => by
    have h' : l ∈ namesT (.fork a b) :: (below a ++ below b) := h
    rcases List.mem_cons.mp h' with z | z
    · intro e
      have h1 := names_len (.fork a b)
      have h2 := leaves_pos (.fork a b)
      rw [← z, e] at h1
      rw [← h1] at h2
      exact absurd h2 (by decide)
    · rcases List.mem_append.mp z with z | z
      · exact below_ne a l z
      · exact below_ne b l z
theorem part_depth : ∀ (t : T) (m : List Nat) (u : T), partT t m = some u → depthT u ≤ depthT t
  | .leaf i, m, u, h => by
    have h' : cond (memB i m) (some (T.leaf i)) none = some u := h
    cases e : memB i m with
    | true => rw [e] at h'; cases h'; exact Nat.le_refl _
    | false => rw [e] at h'; cases h'
  | .fork l r, m, u, h => by
    have fk : ∀ a b : T, depthT (forkN a b) = max (depthT a) (depthT b) + 1 := fun a b => by
      unfold forkN
      cases Nat.blt (firstT b) (firstT a) with
      | true => show max (depthT b) (depthT a) + 1 = _; omega
      | false => rfl
    show depthT u ≤ max (depthT l) (depthT r) + 1
    unfold partT at h
    cases h1 : partT l m with
    | none =>
      cases h2 : partT r m with
      | none => rw [h1, h2] at h; cases h
      | some b =>
        have i2 := part_depth r m b h2
        rw [h1, h2] at h
        cases h
        omega
    | some a =>
      have i1 := part_depth l m a h1
      cases h2 : partT r m with
      | none =>
        rw [h1, h2] at h
        cases h
        omega
      | some b =>
        have i2 := part_depth r m b h2
        rw [h1, h2] at h
        cases h
        rw [fk]
        omega
end
end Jt

set_option Elab.async false
set_option linter.all false
set_option maxRecDepth 100000
set_option maxHeartbeats 4000000
/-! Walks: names, trees. -/
namespace Jt
open PySem PySem.Spec PyProof.Rows L2 PySem.W
section
variable {P : Program} {w : World} {K : PySem.W.Frag} {mg : Str → Option Value} {base : Heap} {f f1 f2 f3 : Addr} {fd fd1 fd2 fd3 : FuncData} {nu : Nat → Str}
/-! is_name -/
def letters : Str := "abcdefghijklmnopqrstuvwxyz"
def nameOk (x : Str) : Bool := decide (1 ≤ x.length) && decide (x.length ≤ 8) && x.cps.toList.all fun c => decide (c ∈ letters.cps.toList)
def ofSign : PyData → Bool
  | .str x => decide (x.cps[0]! ∈ letters.cps.toList)
  | _ => false
abbrev spIsName (K : PySem.W.Frag) : Sp := spD K (fun x : Str => nameOk x = true) (fun x => [.str x]) fun _ => .bool true
theorem sc_isname : FnScope ["thing", "sign"] ["thing"] (defScope s_isname) := ⟨rfl, rfl, rfl, by decide +kernel, rfl, by decide +kernel, by decide +kernel⟩
theorem ok_isname (F : FnP K "is_name" s_isname f fd) (B : Bi mg) : FnOk P w K mg base CX0 1 f fd ["thing"] (spIsName K) := by
  obtain ⟨t1, hl1⟩ := B.letters
  obtain ⟨t2, hl2⟩ := B.longest
  refine F.ok sc_isname (fun vs H Q E h => sp_len h fun _ => rfl) (fun cdv A outer s H vs Q E hr h => ?_)
  obtain ⟨x, Hb, ho, e, hv, q⟩ := h
  refine ⟨_, PSs.nox (pss_one (ps_ret (pe_and (p_isS K B (pv 0))
    (pe_and (pe_chain op_le op_le pe_int (p_len K B (pv 0)) (pe_glob (v := .int 8) rfl hl2 ⟨_, rfl⟩))
    (pe_one (p_all K B rfl (p_lc (own := [("sign", 1)]) (j := 1) rfl sc_isname.nd rfl (pi_str (pv 0)) (blkOk_by (N := ["thing", "sign"]) (sc := defScope s_isname) (by decide +kernel))
      (fun _ _ _ _ _ => pe_cmpR op_in_sign (pv 1) (pe_glob (v := .str letters) rfl hl1 ⟨_, rfl⟩) (by with_unfolding_all rfl))))))))), ?_⟩
  obtain ⟨v, rfl, h1⟩ := dp1 hv
  have h8 : 1 ≤ x.length ∧ x.length ≤ 8 := by
    unfold nameOk at ho
    simp only [Bool.and_eq_true, decide_eq_true_eq] at ho
    exact ho.1
  have hall : x.cps.toList.all (fun c => decide (c ∈ letters.cps.toList)) = true := by
    unfold nameOk at ho
    simp only [Bool.and_eq_true] at ho
    exact ho.2
  refine sd_ret (evd_is (evd_andV (rcd_isi (r := true) (evd_var rfl h1) rfl) fun _ => evd_andV (e_chain evd_int (e_len (evd_var rfl h1) rfl (by omega)) rd_le evd_int rd_le) fun _ =>
    e_all (bs := (x.cps.toList).map fun c => decide (c ∈ letters.cps.toList)) (evn_is (evn_lc1 (fun d => .bool (ofSign d)) (wad_str (evd_var rfl h1)) (by unfold signs; rw [List.length_map, Array.length_toList]; show x.length ≤ _; omega) (fun _ => rfl) fun d hd v2 Hc e2 h2 => ?_) ?_)) ?_) e q
  · obtain ⟨c, hc, rfl⟩ := List.mem_map.mp hd
    exact evd_op (evd_var rfl h2) evd_str rd_inSign
  · unfold signs bools
    rw [List.map_map, List.map_map]
    rfl
  · have e1 : ((1 : Int) ≤ (x.length : Int)) := by omega
    have e2 : ((x.length : Int) ≤ 8) := by omega
    rw [decide_eq_true e1, decide_eq_true e2, List.all_map]
    rw [show (id ∘ fun c => decide (c ∈ letters.cps.toList)) = (fun c => decide (c ∈ letters.cps.toList)) from rfl, hall]
    rfl
/-! is_lot -/
structure GoodLot (nu : Nat → Str) (l : List Nat) : Prop where
  ne : l ≠ []
  nm : ∀ i ∈ l, nameOk (nu i) = true
  up : l.Pairwise (· < ·)
  few : l.length ≤ 1000
abbrev spIsLot (K : PySem.W.Frag) (nu : Nat → Str) : Sp := spD K (fun l : List Nat => GoodLot nu l) (fun l => [lotN nu l]) fun _ => .bool true
theorem sc_islot : FnScope ["thing", "one", "k"] ["thing"] (defScope s_islot) := ⟨rfl, rfl, rfl, by decide +kernel, rfl, by decide +kernel, by decide +kernel⟩
theorem all_true {α : Type} {l : List α} {f : α → Bool} (h : ∀ a ∈ l, f a = true) : (l.map f).all id = true := by
  rw [List.all_map, List.all_eq_true]
  exact h
theorem ok_islot (N : Nu nu) (F : FnP K "is_lot" s_islot f fd) (B : Bi mg) (K1 : Kept P w K mg base "is_name" 1 ["thing"] (spIsName K) f1 fd1) : FnOk P w K mg base CX0 2 f fd ["thing"] (spIsLot K nu) := by
  refine F.ok sc_islot (fun vs H Q E h => sp_len h fun _ => rfl) (fun cdv A outer s H vs Q E hr h => ?_)
  obtain ⟨l, Hb, ho, e, hv, q⟩ := h
  have hu := hr.units
  refine ⟨_, PSs.nox (pss_cons (ps_if (PW.pt (pw_or (pt_not (pt_val (p_isT K B (pv 0)))) (pw_or (pt_cmpR (q_eqD K hu) (pv 0) (pe_tup pa_nil) (nomark _)) (pw_or1 (pt_not (pt_val
      (p_all K B rfl (p_lc (own := [("one", 1)]) (j := 1) rfl sc_islot.nd rfl (q_tup K (pv 0)) (blkOk_by (N := ["thing", "one", "k"]) (sc := defScope s_islot) (by decide +kernel)) (fun _ _ _ _ _ => p_call K1 hr (pa_cons (pv 1) pa_nil)))))))))) (pss_one (ps_ret pe_bl)) pss_nil)
    (pss_one (ps_ret (p_all K B rfl (p_lc (own := [("k", 2)]) (j := 2) rfl sc_islot.nd rfl (pi_range2 rfl B.range (pa_cons pe_int (pa_cons (p_len K B (pv 0)) pa_nil))) (blkOk_by (N := ["thing", "one", "k"]) (sc := defScope s_islot) (by decide +kernel))
      (fun _ _ _ _ _ => pe_cmpR op_lt_str (pe_ix (q_ixT K) (pv 0) (pe_op op_sub (pv 2) pe_int) (fun _ _ => rfl)) (pe_ix (q_ixT K) (pv 0) (pv 2) (fun _ _ => rfl)) (nomark _))))))), ?_⟩
  obtain ⟨v, rfl, h1⟩ := dp1 hv
  have hlen : ((l.map nu).map PyData.str).length = l.length := by rw [List.length_map, List.length_map]
  have hfew := ho.few
  refine sd_if (Hb := Hb) (evt_or (evt_not (evt_B (rcd_isi (evd_var (d := lotN nu l) rfl h1) isi_tT))) fun _ => evt_or (evt_test (evd_op (evd_var (d := lotN nu l) rfl h1) (evd_tup eva_nil) (rd_eqD (shaped_lot N l) (by decide) (nd_lot l) (by decide)))) fun _ =>
    evt_not (evt_B (e_all (bs := l.map fun _ => true) (evn_is (evn_lc1 (fun _ => .bool true) (wad_tup (evd_var (d := lotN nu l) rfl h1)) (by rw [hlen]; omega) (fun _ => rfl) fun d hd v2 Hc e2 h2 => ?c) (by simp only [List.map_map, bools, Function.comp_def]))))) e (fun hb => ?_) fun hb H1 e1 => ?_
  case c =>
    rw [List.map_map] at hd
    obtain ⟨i, hi, rfl⟩ := List.mem_map.mp hd
    exact evd_call (eva_cons (evd_var rfl h2) eva_nil) (nu i) (ho.nm i hi) rfl
  · exfalso
    have e3 : PyData.eqv (lotN nu l) (.tuple []) = false := by
      cases hl : l with
      | nil => exact absurd hl ho.ne
      | cons a b => simp [PyData.eqv, PyData.eqvAll]
    rw [e3, all_true (fun _ _ => rfl)] at hb
    simp at hb
  · refine sd_ret (d := .bool true) (Hb := Hb) (evd_is (e_all (bs := (List.range (l.length - 1)).map fun _ => true) (evn_is (evn_lc1 (fun _ => .bool true) (wad_rng2 (lo := 1) (hi := l.length) (eva_cons evd_int (eva_cons (e_len (evd_var rfl h1) (dlen_lot l) (by omega)) eva_nil)) (by omega)) (by unfold intsFrom; rw [List.length_map, List.length_range]; omega) (fun _ => rfl) fun d hd v2 Hc e2 h2 => ?_) ?_)) ?_) (e.trans e1) fun v Hb' H' k hv => q v Hb' H' (kn_up e1 k) hv
    · unfold intsFrom at hd
      obtain ⟨i, hi, rfl⟩ := List.mem_map.mp hd
      have hi2 : i < l.length - 1 := by have := List.mem_range.mp hi; omega
      have g1 : l[i]? = some l[i] := List.getElem?_eq_getElem (by omega)
      have g2 : l[i + 1]? = some l[i + 1] := List.getElem?_eq_getElem (by omega)
      have lt : l[i] < l[i + 1] := List.pairwise_iff_getElem.mp ho.up i (i + 1) (by omega) (by omega) (by omega)
      refine evd_is (evd_op (evd_op (evd_var (d := lotN nu l) rfl (dp_mono e2 _ _ h1)) (evd_op (evd_var rfl h2) evd_int rd_sub) (rd_ixT (d := .str (nu l[i])) ?_)) (evd_op (evd_var (d := lotN nu l) rfl (dp_mono e2 _ _ h1)) (evd_var rfl h2) (rd_ixT (d := .str (nu l[i + 1])) ?_)) rd_ltS) ?_
      · rw [List.map_map]; exact atI_map _ g1 (by omega)
      · rw [List.map_map]; exact atI_map _ g2 (by omega)
      · rw [N.mono.lt, decide_eq_true lt]
    · unfold intsFrom bools
      rw [List.map_map, List.map_map]
      have : ((l.length : Int) - 1).toNat = l.length - 1 := by omega
      rw [this]
      rfl
    · rw [all_true (fun _ _ => rfl)]
/-! first_name -/
abbrev spFirst (K : PySem.W.Frag) (nu : Nat → Str) : Sp := spD K (fun _ : T => True) (fun t => [treeD nu t]) fun t => nmD nu (firstT t)
theorem sc_firstname : FnScope ["tree"] ["tree"] (defScope s_firstname) := ⟨rfl, rfl, rfl, by decide +kernel, rfl, by decide +kernel, by decide +kernel⟩
theorem ok_firstname (F : FnP K "first_name" s_firstname f fd) (B : Bi mg) : FnOk P w K mg base CX0 1 f fd ["tree"] (spFirst K nu) := by
  refine F.ok sc_firstname (fun vs H Q E h => sp_len h fun _ => rfl) (fun cdv A outer s H vs Q E hr h => ?_)
  obtain ⟨t, Hb, ho, e, hv, q⟩ := h
  refine ⟨_, PSs.nox (pss_cons (ps_while PassesOwn.never (pt_not (pt_val (p_isS K B (pv 0)))) (pss_one (ps_set (i := 0) sc_firstname.nd rfl (Or.inl rfl) (pe_ix (q_ixT K) (pv 0) pe_int (fun _ _ => rfl))))) (pss_one (ps_ret (pv 0)))), ?_⟩
  obtain ⟨v, rfl, h1⟩ := dp1 hv
  refine sd_while (Hb := Hb) (fun m σ' Hc H' => ∃ t' v', σ' = [some v'] ∧ Dp K Hc v' (treeD nu t') ∧ firstT t' = firstT t ∧ m = depthT t' ∧ Kn Hb H Hc H') (depthT t) ⟨t, v, rfl, h1, rfl, rfl, Kn.refl e⟩ (fun m σ' Hc H' ⟨_, _, _, _, _, _, k⟩ => k.sub) ?_
  rintro m σ' Hc H' ⟨t', v', rfl, hd, hf, rfl, k⟩
  cases t' with
  | leaf i =>
    refine ⟨false, evt_is (evt_not (evt_B (rcd_isi (r := true) (evd_var rfl hd) rfl))) rfl, fun z => Bool.noConfusion z, fun _ H1 e1 => ?_⟩
    refine sd_ret (K := K) (Hb := Hc) (evd_var (d := nmD nu i) rfl hd) (k.sub.trans e1) fun v2 Hb' H2 k2 hv2 => q v2 Hb' H2 ?_ ?_
    · exact k.trans (kn_up e1 k2)
    · show Dp K Hb' v2 (nmD nu (firstT t))
      rw [← hf]; exact hv2
  | fork l r =>
    refine ⟨true, evt_is (evt_not (evt_B (rcd_isi (evd_var (d := .tuple [treeD nu l, treeD nu r]) rfl hd) isi_tS))) rfl, fun _ H1 e1 => ?_, fun z => Bool.noConfusion z⟩
    refine sd_set (K := K) (Hb := Hc) (d := treeD nu l) (evd_op (evd_var (d := .tuple [treeD nu l, treeD nu r]) rfl hd) evd_int (rd_ixT rfl)) (k.sub.trans e1) fun v2 Hb' H2 k2 hv2 => ⟨_, Hb', ?_, l, v2, rfl, hv2, hf, rfl, k.trans (kn_up e1 k2)⟩
    show depthT l < max (depthT l) (depthT r) + 1
    omega
end
end Jt

set_option Elab.async false
set_option linter.all false
set_option maxRecDepth 100000
set_option maxHeartbeats 4000000
/-! Walks: standing to nodes_of. -/
namespace Jt
open PySem PySem.Spec PyProof.Rows L2 PySem.W
section
variable {P : Program} {w : World} {K : PySem.W.Frag} {mg : Str → Option Value} {base : Heap} {f f1 f2 f3 : Addr} {fd fd1 fd2 fd3 : FuncData} {nu : Nat → Str}
/-! standing -/
abbrev spStand (K : PySem.W.Frag) (nu : Nat → Str) (n : Nat) : Sp := spD K (fun t : T => depthT t < n ∧ (leaves t).length ≤ 100) (fun t => [treeD nu t]) fun t => .list ((leaves t).map (nmD nu))
theorem sc_standing : FnScope ["tree", "part", "name"] ["tree"] (defScope s_standing) := ⟨rfl, rfl, rfl, by decide +kernel, rfl, by decide +kernel, by decide +kernel⟩
theorem depth_lr {l r : T} {n : Nat} (h : depthT (.fork l r) < n + 1) : depthT l < n ∧ depthT r < n := by
  have : max (depthT l) (depthT r) + 1 < n + 1 := h
  omega
theorem leaves_lr {l r : T} {n : Nat} (h : (leaves (.fork l r)).length ≤ n) : (leaves l).length ≤ n ∧ (leaves r).length ≤ n := by
  have : (leaves l ++ leaves r).length ≤ n := h
  rw [List.length_append] at this
  omega
theorem mem_lr {l r d : T} (h : d ∈ [l, r]) {p : T → Prop} (h1 : p l ∧ p r) : p d := by
  rcases List.mem_cons.mp h with z | z
  · rw [z]; exact h1.1
  · rw [List.mem_singleton.mp z]; exact h1.2
theorem ok_standing {n k : Nat} (F : FnP K "standing" s_standing f fd) (B : Bi mg) (K1 : Kept P w K mg base "standing" k ["tree"] (spStand K nu n) f1 fd1) : FnOk P w K mg base CX0 (k + 1) f fd ["tree"] (spStand K nu (n + 1)) := by
  refine F.ok sc_standing (fun vs H Q E h => sp_len h fun _ => rfl) (fun cdv A outer s H vs Q E hr h => ?_)
  obtain ⟨t, Hb, ho, e, hv, q⟩ := h
  refine ⟨_, PSs.nox (pss_cons (ps_if (pt_val (p_isS K B (pv 0))) (pss_one (ps_ret (pe_lst (pa_cons (pv 0) pa_nil)))) pss_nil)
    (pss_one (ps_ret (p_lc2 (own := [("part", 1), ("name", 2)]) (vs1 := [2]) (j := 1) (j1 := 2) rfl sc_standing.nd rfl rfl (q_tup K (pv 0)) (blkOk_by (N := ["tree", "part", "name"]) (sc := defScope s_standing) (by decide +kernel)) (by decide)
      (fun _ _ _ _ _ => q_list K (p_call K1 hr (pa_cons (pv 1) pa_nil))) (fun _ _ _ _ _ => pv 2))))), ?_⟩
  obtain ⟨v, rfl, h1⟩ := dp1 hv
  cases t with
  | leaf i =>
    refine sd_if (Hb := Hb) (evt_B (rcd_isi (d := nmD nu i) (evd_var rfl h1) isi_sS)) e (fun _ H1 e1 => ?_) fun z => Bool.noConfusion z
    exact sd_ret (evn_lst (eva_cons (evd_var rfl h1) eva_nil) (by exact (by decide : 1 ≤ 100000))).asD (e.trans e1) fun v Hb' H' k hv => q v Hb' H' (kn_up e1 k) hv
  | fork l r =>
    refine sd_if (Hb := Hb) (evt_B (rcd_isi (d := .tuple [treeD nu l, treeD nu r]) (evd_var rfl h1) isi_tS)) e (fun z => Bool.noConfusion z) fun _ H1 e1 => ?_
    have dl := depth_lr ho.1
    have ll := leaves_lr ho.2
    have e2 : ([l, r].flatMap fun d => (leaves d).map fun c => nmD nu c) = (leaves (.fork l r)).map (nmD nu) := by simp [leaves]
    refine sd_ret (evd_is (evb_lc2 (bs := [l, r]) (enc := treeD nu) (en2 := nmD nu) leaves (fun _ c => nmD nu c) (wad_tup (evd_var rfl h1)) (by rw [e2, List.length_map]; have := ho.2; omega) (fun _ => rfl) (fun _ _ => rfl)
      (fun d hd v2 Hc e3 h2 => wad_list (evd_call (eva_cons (evd_var rfl h2) eva_nil) d ⟨mem_lr (p := fun d => depthT d < n) hd dl, mem_lr (p := fun d => (leaves d).length ≤ 100) hd ll⟩ rfl)) (fun d hd c hc v2 w2 Hc e3 h2 h3 => evd_var rfl h3)).asD (congrArg PyData.list e2)) (e.trans e1) fun v Hb' H' k hv => q v Hb' H' (kn_up e1 k) hv
/-! fork_of -/
def firstD : PyData → Str
  | .str x => x
  | .tuple (d :: _) => firstD d
  | _ => ""
theorem firstD_tree : ∀ t : T, firstD (treeD nu t) = nu (firstT t)
  | .leaf i => by simp [treeD, firstD, firstT]
  | .fork l r => by simp [treeD, firstD, firstT, firstD_tree l]
def forkOf : List T → T
  | [a] => a
  | a :: b :: _ => forkN a b
  | [] => .leaf 0
abbrev spForkOf (K : PySem.W.Frag) (nu : Nat → Str) : Sp := spD K (fun ps : List T => ∃ a, ps = [a] ∨ ∃ b, ps = [a, b]) (fun ps => [.list (ps.map (treeD nu))]) fun ps => treeD nu (forkOf ps)
theorem sc_forkof : FnScope ["parts"] ["parts"] (defScope s_forkof) := ⟨rfl, rfl, rfl, by decide +kernel, rfl, by decide +kernel, by decide +kernel⟩
theorem e_sortF {te : TE} {σ : L2.St} {Hb : Hp} {ds : List PyData} {sp : Sp} {kf : PyData → Str} (h : EvD K te σ Hb (.list ds)) (hk : ∀ Hc, ∀ d ∈ ds, KeyAsk K sp Hc d (kf d)) :
    EvN K (tCKw (rSortF K f sp) (tCons te tNil) (tCons (tC (.ref f)) tNil)) σ Hb (ds.mergeSort (dataLe false fun d => .str (kf d))) := fun H e Q q =>
  h H e _ fun v H1 H2 k hv => by
    cases hv with
    | @lst a xs _ hs ha =>
      exact ⟨a, xs, ds, kf, H1, rfl, rfl, Evl.ex_l k.sub hs, k.sub, ha, hk H1, fun ys p H' hp eH hp' hy => q p ys H1 _ ((kn_mid k eH).trans (Kn.mut (k.sub.trans eH) hp')) (none_back k.cur hp) (none_back k.sub hp) upd_same hy⟩
where
  kn_mid {Hb H Hb' H1 H2 : Hp} (k : Kn Hb H Hb' H1) (e : Ex H1 H2) : Kn Hb H Hb' H2 := ⟨k.cur.trans e, k.bas, k.sub.trans e, k.nw⟩
theorem sort_two {α : Type} (le : α → α → Bool) (a b : α) : [a, b].mergeSort le = if le a b = true then [a, b] else [b, a] := by
  simp [List.mergeSort, List.MergeSort.Internal.splitInTwo, List.merge]
theorem ok_forkof (N : Nu nu) (F : FnP K "fork_of" s_forkof f fd) (B : Bi mg) (K1 : Kept P w K mg base "first_name" 1 ["tree"] (spFirst K nu) f1 fd1) : FnOk P w K mg base CX0 4 f fd ["parts"] (spForkOf K nu) := by
  refine F.ok sc_forkof (fun vs H Q E h => sp_len h fun _ => rfl) (fun cdv A outer s H vs Q E hr h => ?_)
  obtain ⟨ps, Hb, ho, e, hv, q⟩ := h
  refine ⟨_, PSs.nox (pss_cons (ps_if (pt_cmpR op_eq (p_len K B (pv 0)) pe_int (nomark _)) (pss_one (ps_ret (pe_ix (q_ixL K) (pv 0) pe_int (fun _ _ => rfl)))) pss_nil)
    (pss_one (ps_ret (p_tuple K B (pe_callBK (cr_sortF K1.ok hr K1.bd hr.units) rfl B.sorted boot_sorted (pa_cons (pv 0) pa_nil) (pk_cons (pe_glob (v := .ref f1) rfl K1.mg rfl) pk_nil)))))), ?_⟩
  obtain ⟨v, rfl, h1⟩ := dp1 hv
  obtain ⟨a, rfl | ⟨b, rfl⟩⟩ := ho
  · refine sd_if (Hb := Hb) (evt_test (evd_op (e_len (n := 1) (evd_var (d := .list [treeD nu a]) rfl h1) rfl (by decide)) evd_int rd_eqI)) e (fun _ H1 e1 => ?_) fun z => Bool.noConfusion z
    exact sd_ret (evd_op (evd_var (d := .list [treeD nu a]) rfl h1) evd_int (rd_ixL rfl)) (e.trans e1) fun v Hb' H' k hv => q v Hb' H' (kn_up e1 k) hv
  · refine sd_if (Hb := Hb) (evt_test (evd_op (e_len (n := 2) (evd_var (d := .list [treeD nu a, treeD nu b]) rfl h1) rfl (by decide)) evd_int rd_eqI)) e (fun z => Bool.noConfusion z) fun _ H1 e1 => ?_
    refine sd_ret (evd_is (e_tup (e_sortF (kf := firstD) (evd_var (d := .list [treeD nu a, treeD nu b]) rfl h1) fun Hc d hd => ?_).asD) ?_) (e.trans e1) fun v Hb' H' k hv => q v Hb' H' (kn_up e1 k) hv
    · intro v2 Hd H2 Q2 _ e3 h2 q2
      have ht : ∃ t, d = treeD nu t := by
        rcases List.mem_cons.mp hd with z | z
        · exact ⟨a, z⟩
        · exact ⟨b, List.mem_singleton.mp z⟩
      obtain ⟨t, rfl⟩ := ht
      refine ⟨t, Hd, trivial, e3, dpAll_one h2, fun v3 Hb' H' k hv => ?_⟩
      have q3 := q2 H' k.cur
      rw [firstD_tree] at q3
      cases hv
      exact q3
    · rw [sort_two]
      have e5 : dataLe false (fun d => PyData.str (firstD d)) (treeD nu a) (treeD nu b) = !Nat.blt (firstT b) (firstT a) := by
        show (!dataLt (.str (firstD (treeD nu b))) (.str (firstD (treeD nu a)))) = _
        rw [firstD_tree, firstD_tree, N.mono.dlt]
        congr 1
        rw [Bool.eq_iff_iff, Nat.blt_eq, decide_eq_true_eq]
      rw [e5]
      show _ = treeD nu (forkN a b)
      unfold forkN
      cases Nat.blt (firstT b) (firstT a) <;> rfl
/-! names_in -/
theorem nm_alike (l : List Nat) : AllAlike (l.map (nmD nu)) := AllAlike.of fun b b' => by simp [alike]
theorem nm_sortable (l : List Nat) : Sortable (l.map (nmD nu)) := Sortable.others fun b => ⟨by simp, fun xs => by simp⟩
theorem nm_flat (l : List Nat) : ∀ d ∈ l.map (nmD nu), d.depth ≤ 50 ∧ nd d = true := fun d hd => by
  obtain ⟨i, _, rfl⟩ := List.mem_map.mp hd
  exact ⟨by simp [PyData.depth], by simp [nd]⟩
theorem sort_nm (N : Nu nu) (l : List Nat) : (l.map (nmD nu)).mergeSort (dataLe false id) = (sortN l).map (nmD nu) := by
  rw [← sortN_eq]; exact sort_names N.mono l
abbrev spNamesIn (K : PySem.W.Frag) (nu : Nat → Str) (n : Nat) : Sp := spD K (fun t : T => depthT t < n ∧ (leaves t).length ≤ 100) (fun t => [treeD nu t]) fun t => lotN nu (namesT t)
theorem sc_namesin : FnScope ["tree"] ["tree"] (defScope s_namesin) := ⟨rfl, rfl, rfl, by decide +kernel, rfl, by decide +kernel, by decide +kernel⟩
theorem ok_namesin {n k : Nat} (N : Nu nu) (F : FnP K "names_in" s_namesin f fd) (B : Bi mg) (K1 : Kept P w K mg base "standing" k ["tree"] (spStand K nu n) f1 fd1) : FnOk P w K mg base CX0 (k + 1) f fd ["tree"] (spNamesIn K nu n) := by
  refine F.ok sc_namesin (fun vs H Q E h => sp_len h fun _ => rfl) (fun cdv A outer s H vs Q E hr h => ?_)
  obtain ⟨t, Hb, ho, e, hv, q⟩ := h
  refine ⟨_, PSs.nox (pss_one (ps_ret (p_tuple K B (p_sorted K B hr.units (p_call K1 hr (pa_cons (pv 0) pa_nil)))))), ?_⟩
  obtain ⟨v, rfl, h1⟩ := dp1 hv
  refine sd_ret (evd_is (e_tup (e_sort (evd_call (eva_cons (evd_var rfl h1) eva_nil) t ho rfl) (nm_alike _) (nm_sortable _) (nm_flat _)).asD) ?_) e q
  rw [sort_nm N, lotN_eq]
  rfl
end
end Jt

set_option Elab.async false
set_option linter.all false
set_option maxRecDepth 100000
set_option maxHeartbeats 4000000
/-! Walks: lots_below to way_of. -/
namespace Jt
open PySem PySem.Spec PyProof.Rows L2 PySem.W
section
variable {P : Program} {w : World} {K : PySem.W.Frag} {mg : Str → Option Value} {base : Heap} {f f1 f2 f3 : Addr} {fd fd1 fd2 fd3 : FuncData} {nu : Nat → Str}
/-! lots_below -/
abbrev spBelow (K : PySem.W.Frag) (nu : Nat → Str) (n : Nat) : Sp := spD K (fun t : T => depthT t < n ∧ (leaves t).length ≤ 100) (fun t => [treeD nu t]) fun t => .list (lotsD nu (below t))
theorem sc_lotsbelow : FnScope ["tree", "part", "lot"] ["tree"] (defScope s_lotsbelow) := ⟨rfl, rfl, rfl, by decide +kernel, rfl, by decide +kernel, by decide +kernel⟩
theorem ok_lotsbelow {n m k k2 : Nat} (hm : n + 1 ≤ m) (hk : k2 ≤ k) (F : FnP K "lots_below" s_lotsbelow f fd) (B : Bi mg) (K1 : Kept P w K mg base "lots_below" k ["tree"] (spBelow K nu n) f1 fd1) (K2 : Kept P w K mg base "names_in" k2 ["tree"] (spNamesIn K nu m) f2 fd2) :
    FnOk P w K mg base CX0 (k + 1) f fd ["tree"] (spBelow K nu (n + 1)) := by
  refine F.ok sc_lotsbelow (fun vs H Q E h => sp_len h fun _ => rfl) (fun cdv A outer s H vs Q E hr h => ?_)
  obtain ⟨t, Hb, ho, e, hv, q⟩ := h
  refine ⟨_, PSs.nox (pss_cons (ps_if (pt_val (p_isS K B (pv 0))) (pss_one (ps_ret (pe_lst pa_nil))) pss_nil)
    (pss_one (ps_ret (pe_op op_cat (pe_lst (pa_cons (p_call K2 hr (pa_cons (pv 0) pa_nil) hk) pa_nil)) (p_lc2 (own := [("part", 1), ("lot", 2)]) (vs1 := [2]) (j := 1) (j1 := 2) rfl sc_lotsbelow.nd rfl rfl (q_tup K (pv 0)) (blkOk_by (N := ["tree", "part", "lot"]) (sc := defScope s_lotsbelow) (by decide +kernel)) (by decide)
      (fun _ _ _ _ _ => q_list K (p_call K1 hr (pa_cons (pv 1) pa_nil))) (fun _ _ _ _ _ => pv 2)))))), ?_⟩
  obtain ⟨v, rfl, h1⟩ := dp1 hv
  cases t with
  | leaf i =>
    refine sd_if (Hb := Hb) (evt_B (rcd_isi (d := nmD nu i) (evd_var rfl h1) isi_sS)) e (fun _ H1 e1 => ?_) fun z => Bool.noConfusion z
    exact sd_ret (evn_lst eva_nil).asD (e.trans e1) fun v Hb' H' k hv => q v Hb' H' (kn_up e1 k) hv
  | fork l r =>
    refine sd_if (Hb := Hb) (evt_B (rcd_isi (d := .tuple [treeD nu l, treeD nu r]) (evd_var rfl h1) isi_tS)) e (fun z => Bool.noConfusion z) fun _ H1 e1 => ?_
    have dl := depth_lr ho.1
    have ll := leaves_lr ho.2
    have e2 : ([l, r].flatMap fun d => (below d).map fun c => lotN nu c) = lotsD nu (below l ++ below r) := by simp
    have b1 := below_len l
    have b2 := below_len r
    have e3 : (lotsD nu (below l ++ below r)).length ≤ 300 := by rw [List.length_map, List.length_append]; omega
    refine sd_ret (evd_is (evn_cat (evn_lst (eva_cons (evd_call (eva_cons (evd_var (d := treeD nu (.fork l r)) rfl h1) eva_nil) (T.fork l r) ⟨by have := ho.1; omega, ho.2⟩ rfl) eva_nil) (by exact (by decide : 1 ≤ 100000)))
      (evb_lc2 (bs := [l, r]) (enc := treeD nu) (en2 := lotN nu) below (fun _ c => lotN nu c) (wad_tup (evd_var rfl h1)) (by rw [e2]; omega) (fun _ => rfl) (fun _ _ => rfl)
        (fun d hd v2 Hc e3 h2 => wad_list (evd_call (eva_cons (evd_var rfl h2) eva_nil) d ⟨mem_lr (p := fun d => depthT d < n) hd dl, mem_lr (p := fun d => (leaves d).length ≤ 100) hd ll⟩ rfl)) (fun d hd c hc v2 w2 Hc e3 h2 h3 => evd_var rfl h3))
      (by rw [e2, List.length_singleton]; omega)).asD ?_) (e.trans e1) fun v Hb' H' k hv => q v Hb' H' (kn_up e1 k) hv
    rw [e2]
    rfl
/-! lots_of -/
theorem lots_flat (ls : List (List Nat)) : ∀ d ∈ lotsD nu ls, d.depth ≤ 50 ∧ nd d = true := fun d hd => by
  obtain ⟨l, _, rfl⟩ := List.mem_map.mp hd
  exact ⟨depth_lot _, nd_lot l⟩
theorem lots_alike (ls : List (List Nat)) : AllAlike (lotsD nu ls) := allAlike_lots (fun l : List Nat => l.map nu) ls
theorem lots_sortable (ls : List (List Nat)) (h : ∀ l ∈ ls, l ≠ []) : Sortable (lotsD nu ls) := sortable_lots (fun l : List Nat => l.map nu) ls fun l hl z => h l hl (by simpa using z)
theorem sort_ls (N : Nu nu) (ls : List (List Nat)) : (lotsD nu ls).mergeSort (dataLe false id) = lotsD nu (sortL ls) := by
  rw [← sortL_eq]; exact sort_lots N.mono ls
abbrev spLotsOf (K : PySem.W.Frag) (nu : Nat → Str) (n : Nat) : Sp := spL K (fun t : T => depthT t < n ∧ (leaves t).length ≤ 100) (fun t => [treeD nu t]) fun t => lotsD nu (sortL (below t))
theorem sc_lotsof : FnScope ["tree"] ["tree"] (defScope s_lotsof) := ⟨rfl, rfl, rfl, by decide +kernel, rfl, by decide +kernel, by decide +kernel⟩
theorem ok_lotsof {n k : Nat} (N : Nu nu) (F : FnP K "lots_of" s_lotsof f fd) (B : Bi mg) (K1 : Kept P w K mg base "lots_below" k ["tree"] (spBelow K nu n) f1 fd1) : FnOk P w K mg base CX0 (k + 1) f fd ["tree"] (spLotsOf K nu n) := by
  refine F.ok sc_lotsof (fun vs H Q E h => spL_len h fun _ => rfl) (fun cdv A outer s H vs Q E hr h => ?_)
  obtain ⟨t, Hb, ho, e, hv, q⟩ := h
  refine ⟨_, PSs.nox (pss_one (ps_ret (p_sorted K B hr.units (p_call K1 hr (pa_cons (pv 0) pa_nil))))), ?_⟩
  obtain ⟨v, rfl, h1⟩ := dp1 hv
  exact sd_retN (evn_is (e_sort (evd_call (eva_cons (evd_var rfl h1) eva_nil) t ho rfl) (lots_alike _) (lots_sortable _ fun l hl => below_ne t l hl) (lots_flat _)) (sort_ls N _)) e q
/-! nodes_of -/
abbrev spNodesOf (K : PySem.W.Frag) (nu : Nat → Str) (n : Nat) : Sp := spD K (fun t : T => depthT t < n ∧ (leaves t).length ≤ 100) (fun t => [treeD nu t]) fun t => .list (lotsD nu (nodesT t))
theorem sc_nodesof : FnScope ["tree", "name"] ["tree"] (defScope s_nodesof) := ⟨rfl, rfl, rfl, by decide +kernel, rfl, by decide +kernel, by decide +kernel⟩
theorem ok_nodesof {n k k2 : Nat} (hk : k2 ≤ k) (F : FnP K "nodes_of" s_nodesof f fd) (B : Bi mg) (K1 : Kept P w K mg base "lots_of" k ["tree"] (spLotsOf K nu n) f1 fd1) (K2 : Kept P w K mg base "names_in" k2 ["tree"] (spNamesIn K nu n) f2 fd2) :
    FnOk P w K mg base CX0 (k + 1) f fd ["tree"] (spNodesOf K nu n) := by
  refine F.ok sc_nodesof (fun vs H Q E h => sp_len h fun _ => rfl) (fun cdv A outer s H vs Q E hr h => ?_)
  obtain ⟨t, Hb, ho, e, hv, q⟩ := h
  refine ⟨_, PSs.nox (pss_one (ps_ret (pe_op op_cat (p_call K1 hr (pa_cons (pv 0) pa_nil)) (p_lc (own := [("name", 1)]) (j := 1) rfl sc_nodesof.nd rfl (q_tup K (p_call K2 hr (pa_cons (pv 0) pa_nil) hk)) (blkOk_by (N := ["tree", "name"]) (sc := defScope s_nodesof) (by decide +kernel))
    (fun _ _ _ _ _ => pe_tup (pa_cons (pv 1) pa_nil)))))), ?_⟩
  obtain ⟨v, rfl, h1⟩ := dp1 hv
  have b1 := below_len t
  have b2 := names_len t
  have b3 := (sortL_perm (below t)).length_eq
  refine sd_ret (evd_is (evn_cat (evn_call (eva_cons (evd_var rfl h1) eva_nil) t ho rfl) (evb_lc1 (bs := namesT t) (enc := nmD nu) (fun i => lotN nu [i]) (wad_tup (evd_is (evd_call (eva_cons (evd_var rfl h1) eva_nil) t ho rfl) (lotN_eq _).symm)) (by omega) (fun _ => rfl)
    fun d hd v2 Hc e3 h2 => evd_tup (eva_cons (evd_var rfl h2) eva_nil) (by exact (by decide : 1 ≤ 100000))) ?_).asD ?_) e q
  · rw [List.length_map, List.length_map, b3]
    have := ho.2
    omega
  · show PyData.list (_ ++ _) = PyData.list (lotsD nu (sortL (below t) ++ (namesT t).map fun i => [i]))
    simp
/-! has_all -/
abbrev spHasAll (K : PySem.W.Frag) (nu : Nat → Str) : Sp := spD K (fun p : List Nat × List Nat => p.2.length ≤ 100) (fun p => [lotN nu p.1, lotN nu p.2]) fun p => .bool (hasAll p.1 p.2)
theorem sc_hasall : FnScope ["lot", "names", "name"] ["lot", "names"] (defScope s_hasall) := ⟨rfl, rfl, rfl, by decide +kernel, rfl, by decide +kernel, by decide +kernel⟩
theorem ok_hasall (N : Nu nu) (F : FnP K "has_all" s_hasall f fd) (B : Bi mg) : FnOk P w K mg base CX0 1 f fd ["lot", "names"] (spHasAll K nu) := by
  refine F.ok sc_hasall (fun vs H Q E h => sp_len h fun _ => rfl) (fun cdv A outer s H vs Q E hr h => ?_)
  obtain ⟨⟨a, b⟩, Hb, ho, e, hv, q⟩ := h
  refine ⟨_, PSs.nox (pss_one (ps_ret (p_all K B rfl (p_lc (own := [("name", 2)]) (j := 2) rfl sc_hasall.nd rfl (q_tup K (pv 1)) (blkOk_by (N := ["lot", "names", "name"]) (sc := defScope s_hasall) (by decide +kernel))
    (fun _ _ _ _ _ => pe_cmpR (q_in K) (pv 2) (pv 0) (by with_unfolding_all rfl)))))), ?_⟩
  obtain ⟨v, u, rfl, h1, h2⟩ := dp2 hv
  refine sd_ret (evd_is (e_all (bs := b.map fun i => memB i a) (evn_is (evb_lc1 (bs := b) (enc := nmD nu) (fun i => .bool (memB i a)) (wad_tup (evd_is (evd_var rfl h2) (lotN_eq _).symm)) (by have : b.length ≤ 100 := ho; omega) (fun _ => rfl) fun d hd v2 Hc e3 h3 => ?_) ?_)) ?_) e q
  · exact evd_is (evd_op (evd_var rfl h3) (evd_var (d := lotN nu a) rfl (dp_mono e3 _ _ h1)) (rd_inL (.inr rfl))) (by rw [mem_nu N.mono])
  · simp only [List.map_map, bools, Function.comp_def]
  · unfold hasAll
    rw [List.all_map]
    rfl
end
end Jt

set_option Elab.async false
set_option linter.all false
set_option maxRecDepth 100000
set_option maxHeartbeats 4000000
/-! Walks: part_to, tree_to, head_of, way_of. -/
namespace Jt
open PySem PySem.Spec PyProof.Rows L2 PySem.W
section
variable {P : Program} {w : World} {K : PySem.W.Frag} {mg : Str → Option Value} {base : Heap} {f f1 f2 f3 : Addr} {fd fd1 fd2 fd3 : FuncData} {nu : Nat → Str}
/-! head_of -/
abbrev spHeadOf (K : PySem.W.Frag) (nu : Nat → Str) : Sp := spD K (fun p : List (List Nat) × List Nat => p.1.length ≤ 1000 ∧ p.2.length ≤ 100 ∧ (p.1.filter fun n => hasAll n p.2) ≠ []) (fun p => [.list (lotsD nu p.1), lotN nu p.2]) fun p => lotN nu (headT p.1 p.2)
theorem sc_headof : FnScope ["nodes", "lot", "node"] ["nodes", "lot"] (defScope s_headof) := ⟨rfl, rfl, rfl, by decide +kernel, rfl, by decide +kernel, by decide +kernel⟩
theorem ok_headof (F : FnP K "head_of" s_headof f fd) (B : Bi mg) (K1 : Kept P w K mg base "has_all" 1 ["lot", "names"] (spHasAll K nu) f1 fd1) : FnOk P w K mg base CX0 2 f fd ["nodes", "lot"] (spHeadOf K nu) := by
  refine F.ok sc_headof (fun vs H Q E h => sp_len h fun _ => rfl) (fun cdv A outer s H vs Q E hr h => ?_)
  obtain ⟨⟨ns, l⟩, Hb, ⟨o1, o2, o3⟩, e, hv, q⟩ := h
  refine ⟨_, PSs.nox (pss_one (ps_ret (pe_minL rfl rfl B.min rfl B.len (p_lcT (own := [("node", 2)]) (j := 2) rfl sc_headof.nd rfl (q_list K (pv 0)) (blkOk_by (N := ["nodes", "lot", "node"]) (sc := defScope s_headof) (by decide +kernel))
    (fun _ _ _ _ _ => pt_val (p_call K1 hr (pa_cons (pv 2) (pa_cons (pv 1) pa_nil)))) (fun _ _ _ _ _ => pv 2))))), ?_⟩
  obtain ⟨v, u, rfl, h1, h2⟩ := dp2 hv
  refine sd_ret (evd_minL (l := ns.filter fun n => hasAll n l) (evb_lc (bs := ns) (enc := lotN nu) (fun n => hasAll n l) (lotN nu) (wad_list (evd_var rfl h1)) (by have : ns.length ≤ 1000 := o1; omega) (fun _ => rfl) (fun d hd v2 Hc e3 h3 => ?_) fun d hd _ v2 Hc e3 h3 => evd_var rfl h3).asD o3) e q
  exact evt_B (evd_call (eva_cons (evd_var rfl h3) (eva_cons (evd_var rfl (dp_mono e3 _ _ h2)) eva_nil)) (d, l) o2 rfl)
/-! part_to -/
abbrev spPartTo (K : PySem.W.Frag) (nu : Nat → Str) (n : Nat) : Sp := spD K (fun p : T × List Nat => depthT p.1 < n ∧ n ≤ 50) (fun p => [treeD nu p.1, lotN nu p.2]) fun p => optD nu (partT p.1 p.2)
theorem sc_partto : FnScope ["tree", "names", "parts", "kept", "part"] ["tree", "names"] (defScope s_partto) := ⟨rfl, rfl, rfl, by decide +kernel, rfl, by decide +kernel, by decide +kernel⟩
def someB : Option T → Bool
  | some _ => true
  | none => false
def optT : Option T → T
  | some t => t
  | none => .leaf 0
theorem isNone_opt : ∀ o : Option T, isNone (optD nu o) = !someB o
  | none => rfl
  | some (.leaf _) => rfl
  | some (.fork _ _) => rfl
theorem part_fork (l r : T) (m : List Nat) : partT (.fork l r) m = match [partT l m, partT r m].filter someB with
    | [] => none
    | ps => some (forkOf (ps.map optT)) := by
  show (match partT l m, partT r m with
    | some a, some b => some (forkN a b)
    | some a, none => some a
    | none, some b => some b
    | none, none => none) = _
  cases partT l m <;> cases partT r m <;> rfl
theorem some_opts : ∀ ps : List (Option T), (ps.filter someB).map (optD nu) = ((ps.filter someB).map optT).map (treeD nu)
  | [] => rfl
  | none :: ps => by
    show ((ps.filter someB).map (optD nu)) = _
    exact some_opts ps
  | some t :: ps => by
    show optD nu (some t) :: ((ps.filter someB).map (optD nu)) = treeD nu t :: ((ps.filter someB).map optT).map (treeD nu)
    rw [some_opts ps]
    rfl
theorem shaped_trees (N : Nu nu) {ts : List T} {n : Nat} (h : ∀ t ∈ ts, depthT t ≤ n) (hn : n ≤ 60) : SeqAt.shaped (.list (ts.map (treeD nu))) = true ∧ nd (.list (ts.map (treeD nu))) = true := by
  have go : ∀ ts : List T, (∀ t ∈ ts, depthT t ≤ n) → PyData.canLayAll0 (ts.map (treeD nu)) = true ∧ PyData.depthAll (ts.map (treeD nu)) ≤ n ∧ ndAll (ts.map (treeD nu)) = true := by
    intro ts
    induction ts with
    | nil => intro _; exact ⟨by simp [PyData.canLayAll0], by simp [PyData.depthAll], by simp [ndAll]⟩
    | cons t ts ih =>
      intro h
      obtain ⟨a1, a2, a3⟩ := ih fun u hu => h u (List.mem_cons_of_mem _ hu)
      obtain ⟨b1, b2, b3⟩ := tree_shape N t
      have h2 := h t List.mem_cons_self
      refine ⟨?_, ?_, ?_⟩
      · rw [List.map_cons, PyData.canLayAll0, a1, b1]; rfl
      · rw [List.map_cons, PyData.depthAll, b2]; omega
      · rw [List.map_cons, ndAll, a3, b3]; rfl
  obtain ⟨a1, a2, a3⟩ := go ts h
  unfold SeqAt.shaped
  rw [PyData.canLay0, PyData.depth, a1, nd]
  exact ⟨by simp; omega, a3⟩
theorem ok_partto {n k k2 : Nat} (N : Nu nu) (hk : k2 ≤ k) (F : FnP K "part_to" s_partto f fd) (B : Bi mg) (K1 : Kept P w K mg base "part_to" k ["tree", "names"] (spPartTo K nu n) f1 fd1) (K2 : Kept P w K mg base "fork_of" k2 ["parts"] (spForkOf K nu) f2 fd2) :
    FnOk P w K mg base CX0 (k + 1) f fd ["tree", "names"] (spPartTo K nu (n + 1)) := by
  refine F.ok sc_partto (fun vs H Q E h => sp_len h fun _ => rfl) (fun cdv A outer s H vs Q E hr h => ?_)
  obtain ⟨⟨t, m⟩, Hb, ⟨o1, o2⟩, e, hv, q⟩ := h
  refine ⟨_, PSs.nox (pss_cons (ps_if (pt_val (p_isS K B (pv 0))) (pss_one (ps_ret (pe_ifExp (pt_cmpR (q_in K) (pv 0) (pv 1) (by with_unfolding_all rfl)) (pv 0) pe_non))) pss_nil)
    (pss_cons (p_setlc (own := [("part", 4)]) (i := 2) (j := 4) rfl sc_partto.nd rfl rfl (q_tup K (pv 0)) (blkOk_by (N := ["tree", "names", "parts", "kept", "part"]) (sc := defScope s_partto) (by decide +kernel)) (fun _ _ _ _ _ => p_call K1 hr (pa_cons (pv 4) (pa_cons (pv 1) pa_nil))))
    (pss_cons (p_setlcT (own := [("part", 4)]) (i := 3) (j := 4) rfl sc_partto.nd rfl rfl (q_list K (pv 2)) (blkOk_by (N := ["tree", "names", "parts", "kept", "part"]) (sc := defScope s_partto) (by decide +kernel)) (fun _ _ _ _ _ => pt_cmpR op_notN (pv 4) pe_non (nomark _)) (fun _ _ _ _ _ => pv 4))
    (pss_one (ps_ret (pe_ifExp (pt_cmpR (q_neD K hr.units) (pv 3) (pe_lst pa_nil) (nomark _)) (p_call K2 hr (pa_cons (pv 3) pa_nil) hk) pe_non)))))), ?_⟩
  obtain ⟨v, u, rfl, h1, h2⟩ := dp2 hv
  cases t with
  | leaf i =>
    refine sd_if (Hb := Hb) (evt_B (rcd_isi (d := nmD nu i) (evd_var rfl h1) isi_sS)) e (fun _ H1 e1 => ?_) fun z => Bool.noConfusion z
    have e2 : partT (.leaf i) m = cond (memB i m) (some (.leaf i)) none := rfl
    refine sd_ret (evd_if (evt_test (evd_op (evd_var (d := nmD nu i) rfl h1) (evd_var (d := lotN nu m) rfl h2) (rd_inL (.inr rfl)))) (d := optD nu (partT (.leaf i) m)) (fun z => ?_) fun z => ?_) (e.trans e1) fun v Hb' H' k hv => q v Hb' H' (kn_up e1 k) hv
    · rw [mem_nu N.mono] at z
      rw [e2, z]
      exact evd_var rfl h1
    · rw [mem_nu N.mono] at z
      rw [e2, z]
      exact evd_non
  | fork l r =>
    refine sd_if (Hb := Hb) (evt_B (rcd_isi (d := .tuple [treeD nu l, treeD nu r]) (evd_var rfl h1) isi_tS)) e (fun z => Bool.noConfusion z) fun _ H1 e1 => ?_
    have dl := depth_lr o1
    refine sd_set (Hb := Hb) (evb_lc1 (bs := [l, r]) (enc := treeD nu) (fun d => optD nu (partT d m)) (wad_tup (evd_var rfl h1)) (by exact (by decide : 2 ≤ 40000)) (fun _ => rfl) fun d hd v2 Hc e3 h3 =>
      evd_call (eva_cons (evd_var rfl h3) (eva_cons (evd_var rfl (dp_mono e3 _ _ h2)) eva_nil)) (d, m) ⟨mem_lr (p := fun d => depthT d < n) hd dl, by omega⟩ rfl).asD (e.trans e1) fun vp Hc Hd k1 hp => ?_
    have eq1 : ([l, r].map fun d => optD nu (partT d m)) = [partT l m, partT r m].map (optD nu) := rfl
    rw [eq1] at hp
    refine sd_set (Hb := Hc) (evb_lc (bs := [partT l m, partT r m]) (enc := optD nu) someB (optD nu) (wad_list (evd_var rfl hp)) (by exact (by decide : 2 ≤ 40000)) (fun _ => rfl) (fun d hd v2 Hc2 e3 h3 =>
      evt_is (evt_test (evd_op (evd_var rfl h3) evd_non rd_notN)) (by rw [isNone_opt, Bool.not_not])) fun d hd _ v2 Hc2 e3 h3 => evd_var rfl h3).asD k1.sub fun vk Hd2 He k2 hk2 => ?_
    rw [some_opts] at hk2
    have dps : ∀ x ∈ ([partT l m, partT r m].filter someB).map optT, depthT x ≤ n := fun x hx => by
      obtain ⟨o, ho, rfl⟩ := List.mem_map.mp hx
      obtain ⟨ho1, ho2⟩ := List.mem_filter.mp ho
      have any : ∀ t : T, depthT t < n → o = partT t m → depthT (optT o) ≤ n := fun t ht ht2 => by
        cases o with
        | none => cases ho2
        | some y =>
          have := part_depth t m y ht2.symm
          show depthT y ≤ n
          omega
      rcases List.mem_cons.mp ho1 with z | z
      · exact any l dl.1 z
      · exact any r dl.2 (List.mem_singleton.mp z)
    obtain ⟨s1, s2⟩ := shaped_trees N dps (by omega)
    have fin : ∀ v Hb' H', Kn Hd2 He Hb' H' → Dp K Hb' v (optD nu (partT (.fork l r) m)) → Q v H' := fun v Hb' H' k hv => q v Hb' H' (kn_up e1 ((k1.trans k2).trans k)) hv
    rw [part_fork] at fin
    generalize hps : [partT l m, partT r m].filter someB = ps at hk2 s1 s2 fin
    refine sd_ret (evd_if (evt_test (evd_op (evd_var rfl hk2) (evn_lst eva_nil).asD (rd_neD s1 (by decide) s2 (by decide)))) (fun z => ?_) fun z => ?_) k2.sub fin
    · have hne : ps ≠ [] := fun z2 => by
        subst z2
        simp [PyData.eqv, PyData.eqvAll] at z
      have hfo : ∃ a, ps.map optT = [a] ∨ ∃ b, ps.map optT = [a, b] := by
        rw [← hps] at hne ⊢
        cases h5 : partT l m <;> cases h6 : partT r m
        · rw [h5, h6] at hne; exact absurd rfl hne
        · exact ⟨_, .inl rfl⟩
        · exact ⟨_, .inl rfl⟩
        · exact ⟨_, .inr ⟨_, rfl⟩⟩
      have := evd_call (K := K) (E := E0) (arg := fun ps : List T => [.list (ps.map (treeD nu))]) (res := fun ps => treeD nu (forkOf ps)) (ok := fun ps : List T => ∃ a, ps = [a] ∨ ∃ b, ps = [a, b]) (eva_cons (evd_var (σ := start ["tree", "names", "parts", "kept", "part"] [v, u] |>.set 2 (some vp) |>.set 3 (some vk)) (i := 3) rfl hk2) eva_nil) (ps.map optT) hfo rfl
      cases ps with
      | nil => exact absurd rfl hne
      | cons a b => exact this
    · have he : ps = [] := by
        cases ps with
        | nil => rfl
        | cons a b => simp [PyData.eqv, PyData.eqvAll] at z
      subst he
      exact evd_non
/-! tree_to -/
abbrev spTreeTo (K : PySem.W.Frag) (nu : Nat → Str) (n : Nat) : Sp := spD K (fun p : T × List Nat => depthT p.1 < n ∧ n ≤ 50) (fun p => [treeD nu p.1, lotN nu p.2]) fun p => optD nu (partT p.1 p.2)
theorem sc_treeto : FnScope ["tree", "names"] ["tree", "names"] (defScope s_treeto) := ⟨rfl, rfl, rfl, by decide +kernel, rfl, by decide +kernel, by decide +kernel⟩
theorem ok_treeto {n k : Nat} (F : FnP K "tree_to" s_treeto f fd) (K1 : Kept P w K mg base "part_to" k ["tree", "names"] (spPartTo K nu n) f1 fd1) : FnOk P w K mg base CX0 (k + 1) f fd ["tree", "names"] (spTreeTo K nu n) := by
  refine F.ok sc_treeto (fun vs H Q E h => sp_len h fun _ => rfl) (fun cdv A outer s H vs Q E hr h => ?_)
  obtain ⟨p, Hb, ho, e, hv, q⟩ := h
  refine ⟨_, PSs.nox (pss_one (ps_ret (p_call K1 hr (pa_cons (pv 0) (pa_cons (pv 1) pa_nil))))), ?_⟩
  obtain ⟨v, u, rfl, h1, h2⟩ := dp2 hv
  exact sd_ret (evd_call (eva_cons (evd_var rfl h1) (eva_cons (evd_var rfl h2) eva_nil)) p ho rfl) e q
end
end Jt

set_option Elab.async false
set_option linter.all false
set_option maxRecDepth 100000
set_option maxHeartbeats 4000000
/-! Walks: way_of, are_apart, share. -/
namespace Jt
open PySem PySem.Spec PyProof.Rows L2 PySem.W
section
variable {P : Program} {w : World} {K : PySem.W.Frag} {mg : Str → Option Value} {base : Heap} {f f1 f2 f3 : Addr} {fd fd1 fd2 fd3 : FuncData} {nu : Nat → Str}
/-! way_of -/
structure WayOk (p : (List (List Nat) × List Nat) × Bool) : Prop where
  few : p.1.1.length ≤ 1000
  sm : p.1.2.length ≤ 100
  lots : ∀ n ∈ p.1.1, n.length ≤ 100
  hd : p.2 = false → (p.1.1.filter fun n => hasAll n p.1.2) ≠ []
def wayR (p : (List (List Nat) × List Nat) × Bool) : List (List Nat) := cond p.2 (metT p.1.1 p.1.2) (wayT p.1.1 p.1.2)
abbrev spWayOf (K : PySem.W.Frag) (nu : Nat → Str) : Sp := spL K WayOk (fun p => [.list (lotsD nu p.1.1), lotN nu p.1.2, .bool p.2]) fun p => lotsD nu (wayR p)
abbrev N_wayof : List Str := ["nodes", "lot", "is_top", "met", "many", "node", "name"]
theorem sc_wayof : FnScope N_wayof ["nodes", "lot", "is_top"] (defScope s_wayof) := ⟨rfl, rfl, rfl, by decide +kernel, rfl, by decide +kernel, by decide +kernel⟩
theorem head_mem {ns : List (List Nat)} {l : List Nat} (h : (ns.filter fun n => hasAll n l) ≠ []) : headT ns l ∈ ns ∧ hasAll (headT ns l) l = true := by
  have go : ∀ (r : List (List Nat)) (b : List Nat), minLen r b ∈ b :: r := by
    intro r
    induction r with
    | nil => intro b; exact List.mem_cons_self
    | cons x r ih =>
      intro b
      show cond _ _ _ ∈ _
      cases Nat.blt x.length b.length with
      | true => exact List.mem_cons_of_mem _ (ih x)
      | false =>
        rcases List.mem_cons.mp (ih b) with z | z
        · show minLen r b ∈ _
          rw [z]; exact List.mem_cons_self
        · exact List.mem_cons_of_mem _ (List.mem_cons_of_mem _ z)
  have h2 : headT ns l ∈ ns.filter fun n => hasAll n l := by
    unfold headT
    cases q : ns.filter fun n => hasAll n l with
    | nil => exact absurd q h
    | cons b r => exact go r b
  exact List.mem_filter.mp h2
theorem ok_wayof {kws : List (Str × V)} (N : Nu nu) (F : FnK K "way_of" s_wayof kws f fd) (B : Bi mg) (K1 : Kept P w K mg base "head_of" 2 ["nodes", "lot"] (spHeadOf K nu) f1 fd1) : FnOk P w K mg base CX0 3 f fd ["nodes", "lot", "is_top"] (spWayOf K nu) := by
  refine F.ok sc_wayof (fun vs H Q E h => spL_len h fun _ => rfl) (fun cdv A outer s H vs Q E hr h => ?_)
  obtain ⟨⟨⟨ns, l⟩, top⟩, Hb, ⟨o1, o2, o3, o4⟩, e, hv, q⟩ := h
  refine ⟨_, PSs.nox (pss_cons (p_setlcT (own := [("node", 5)]) (i := 3) (j := 5) rfl sc_wayof.nd rfl rfl (q_list K (pv 0)) (blkOk_by (N := N_wayof) (sc := defScope s_wayof) (by decide +kernel))
      (fun _ _ _ _ _ => pt_val (p_any K B rfl (p_lc (own := [("name", 6)]) (j := 6) rfl sc_wayof.nd rfl (q_tup K (pv 1)) (blkOk_by (by kernel_rfl)) (fun _ _ _ _ _ => pe_cmpR (q_in K) (pv 6) (pv 5) (by with_unfolding_all rfl))))) (fun _ _ _ _ _ => pv 5))
    (pss_cons (ps_if (pt_val (pv 2)) (pss_one (ps_ret (pv 3))) pss_nil)
    (pss_cons (ps_set (i := 4) sc_wayof.nd rfl (Or.inr rfl) (p_len K B (p_call K1 hr (pa_cons (pv 0) (pa_cons (pv 1) pa_nil)))))
    (pss_one (ps_ret (p_lcT (own := [("node", 5)]) (j := 5) rfl sc_wayof.nd rfl (q_list K (pv 3)) (blkOk_by (N := N_wayof) (sc := defScope s_wayof) (by decide +kernel))
      (fun _ _ _ _ _ => pt_cmpR op_le (p_len K B (pv 5)) (pv 4) (nomark _)) (fun _ _ _ _ _ => pv 5))))))), ?_⟩
  obtain ⟨v1, v2, v3, rfl, h1, h2, h3⟩ := dp3 hv
  have o1' : ns.length ≤ 1000 := o1
  have o2' : l.length ≤ 100 := o2
  refine sd_setN (Hb := Hb) (evb_lc (bs := ns) (enc := lotN nu) (fun n => l.any fun i => memB i n) (lotN nu) (wad_list (evd_var rfl h1)) (by omega) (fun _ => rfl) (fun d hd v Hc e3 hdv => ?_) fun d hd _ v Hc e3 hdv => evd_var rfl hdv) e fun p xs Hc Hd k1 n1 n2 c1 a1 => ?_
  · refine evt_B (evd_is (e_any (bs := l.map fun i => memB i d) (evn_is (evb_lc1 (bs := l) (enc := nmD nu) (fun i => .bool (memB i d)) (wad_tup (evd_is (evd_var rfl (dp_mono e3 _ _ h2)) (lotN_eq _).symm)) (by omega) (fun _ => rfl) fun i hi u Hc2 e4 hi2 => ?_) ?_)) ?_)
    · exact evd_is (evd_op (evd_var rfl hi2) (evd_var (d := lotN nu d) rfl (dp_mono e4 _ _ hdv)) (rd_inL (.inr rfl))) (by rw [mem_nu N.mono])
    · simp only [List.map_map, bools, Function.comp_def]
    · rw [List.any_map]; rfl
  · have a1' : DpAll K Hc xs (lotsD nu (metT ns l)) := a1
    refine sd_if (Hb := Hc) (evt_B (b := top) (evd_var rfl (dp_mono k1.bas _ _ h3))) k1.sub (fun z H1 e1 => ?_) fun z H1 e1 => ?_
    · subst z
      exact ⟨.ref p, rfl, q p xs Hc H1 ⟨k1.cur.trans e1, k1.bas, k1.sub.trans e1, k1.nw⟩ n1 n2 (e1 _ _ c1) a1'⟩
    · subst z
      have hown : Own K Hc H1 p (lotsD nu (metT ns l)) := ⟨n2, xs, e1 _ _ c1, a1'⟩
      obtain ⟨Hs, es1, es2, dps, hsn⟩ := hown.show_ (k1.sub.trans e1)
      have ebs : Ex Hb Hs := k1.bas.trans es1
      have hh := head_mem (o4 rfl)
      refine sd_set (Hb := Hs) (e_len (evd_call (eva_cons (evd_var rfl (dp_mono ebs _ _ h1)) (eva_cons (evd_var rfl (dp_mono ebs _ _ h2)) eva_nil)) (ns, l) ⟨o1, o2, o4 rfl⟩ rfl) (dlen_lot _) (Nat.le_trans (show (headT ns l).length ≤ 100 from o3 _ hh.1) (by decide))) es2 fun vm Ht Hu k2 hm => ?_
      refine sd_retN (Hb := Ht) (evb_lc (bs := metT ns l) (enc := lotN nu) (fun n => Nat.ble n.length (headT ns l).length) (lotN nu) (wad_list (evd_var rfl (dp_mono k2.bas _ _ dps))) (by have : (metT ns l).length ≤ ns.length := List.length_filter_le _ _; omega) (fun _ => rfl) (fun d hd v Hc2 e3 hdv => ?_) fun d hd _ v Hc2 e3 hdv => evd_var rfl hdv) k2.sub fun p2 xs2 Hb' H' k3 m1 m2 c2 a2 => ?_
      · refine evt_is (evt_test (evd_op (e_len (evd_var (d := lotN nu d) rfl hdv) (dlen_lot _) (by have := o3 d (List.mem_filter.mp hd).1; omega)) (evd_var rfl (dp_mono e3 _ _ hm)) rd_le)) ?_
        show decide ((d.length : Int) ≤ ((headT ns l).length : Int)) = Nat.ble d.length (headT ns l).length
        rw [Bool.eq_iff_iff, decide_eq_true_eq, Nat.ble_eq]
        omega
      · have kall : Kn Hb H Hs H1 := ⟨k1.cur.trans e1, ebs, es2, fun a o z => by
          rcases hsn a o z with y | y
          · rw [y]; exact .inr n1
          · exact k1.nw a o y⟩
        exact q p2 xs2 Hb' H' ((kall.trans k2).trans k3) (none_back (kall.trans k2).cur m1) m2 c2 a2
end
end Jt

set_option Elab.async false
set_option linter.all false
set_option maxRecDepth 100000
set_option maxHeartbeats 4000000
/-! Walks: are_apart, share. -/
namespace Jt
open PySem PySem.Spec PyProof.Rows L2 PySem.W
/-! sizes of nodes -/
theorem below_small : ∀ (t : T) (l : List Nat), l ∈ below t → l.length ≤ (leaves t).length
  | .leaf i, l, h => by cases h
  | .fork a b, l, h => by
    have h' : l ∈ namesT (.fork a b) :: (below a ++ below b) := h
    have e : (leaves (.fork a b)).length = (leaves a).length + (leaves b).length := List.length_append
    rcases List.mem_cons.mp h' with z | z
    · rw [z, names_len]; exact Nat.le_refl _
    · rcases List.mem_append.mp z with z | z
      · have := below_small a l z; omega
      · have := below_small b l z; omega
theorem nodes_small (t : T) (l : List Nat) (h : l ∈ nodesT t) : l.length ≤ (leaves t).length := by
  rcases List.mem_append.mp h with z | z
  · exact below_small t l ((sortL_perm _).mem_iff.mp z)
  · obtain ⟨i, _, rfl⟩ := List.mem_map.mp z
    exact leaves_pos t
theorem nodes_len (t : T) : (nodesT t).length + 1 ≤ 2 * (leaves t).length := by
  have h1 := below_len t
  have h2 := names_len t
  have h3 := (sortL_perm (below t)).length_eq
  show (sortL (below t) ++ (namesT t).map fun i => [i]).length + 1 ≤ _
  rw [List.length_append, List.length_map]
  omega
theorem root_mem : ∀ t : T, namesT t ∈ nodesT t
  | .leaf i => by
    show [i] ∈ ([] : List (List Nat)) ++ [[i]]
    simp
  | .fork a b => List.mem_append_left _ ((sortL_perm _).mem_iff.mpr List.mem_cons_self)
theorem hasAll_iff {lot names : List Nat} : hasAll lot names = true ↔ ∀ i ∈ names, i ∈ lot := by
  unfold hasAll
  rw [List.all_eq_true]
  constructor
  · intro h i hi
    have := h i hi
    rw [memB_eq, decide_eq_true_eq] at this
    exact this
  · intro h i hi
    rw [memB_eq, decide_eq_true_eq]
    exact h i hi
theorem has_head {t : T} {l : List Nat} (h : ∀ i ∈ l, i ∈ leaves t) : ((nodesT t).filter fun n => hasAll n l) ≠ [] := fun e => by
  have h1 : namesT t ∈ (nodesT t).filter fun n => hasAll n l := List.mem_filter.mpr ⟨root_mem t, hasAll_iff.mpr fun i hi => (sortN_perm _).mem_iff.mpr (h i hi)⟩
  rw [e] at h1
  cases h1
structure ShOk (t : T) (top : List Nat) (others : List (List Nat)) : Prop where
  dp : depthT t < 7
  few : (leaves t).length ≤ 6
  tp : top.length ≤ 100
  oth : others.length ≤ 4
  lots : ∀ l ∈ others, l.length ≤ 100 ∧ ∀ i ∈ l, i ∈ leaves t
theorem flat_le {α β : Type} (g : α → List β) (n : Nat) : ∀ l : List α, (∀ a ∈ l, (g a).length ≤ n) → (l.flatMap g).length ≤ l.length * n
  | [], _ => by simp
  | a :: l, h => by
    rw [List.flatMap_cons, List.length_append, List.length_cons]
    have h1 := h a List.mem_cons_self
    have h2 := flat_le g n l fun b hb => h b (List.mem_cons_of_mem _ hb)
    have : (l.length + 1) * n = l.length * n + n := Nat.succ_mul _ _
    omega
theorem way_le (ns : List (List Nat)) (l : List Nat) : (wayT ns l).length ≤ ns.length := Nat.le_trans (List.length_filter_le _ _) (List.length_filter_le _ _)
theorem ShOk.flat {t : T} {top : List Nat} {others : List (List Nat)} (o : ShOk t top others) : (others.flatMap fun lot => wayT (nodesT t) lot).length ≤ 44 := by
  have h1 := nodes_len t
  have h2 := o.few
  have h3 := flat_le (fun lot => wayT (nodesT t) lot) 11 others fun l _ => by have := way_le (nodesT t) l; omega
  have h4 := o.oth
  omega
theorem ShOk.met {t : T} {top : List Nat} {others : List (List Nat)} (o : ShOk t top others) : (metT (nodesT t) top).length ≤ 11 := by
  have h1 := nodes_len t
  have h2 := o.few
  have h3 : (metT (nodesT t) top).length ≤ (nodesT t).length := List.length_filter_le _ _
  omega
section
variable {P : Program} {w : World} {K : PySem.W.Frag} {mg : Str → Option Value} {base : Heap} {f f1 f2 f3 : Addr} {fd fd1 fd2 fd3 : FuncData} {nu : Nat → Str}
/-! are_apart -/
abbrev Ap := (T × List Nat) × List (List Nat)
abbrev spApart (K : PySem.W.Frag) (nu : Nat → Str) : Sp := spD K (fun p : Ap => ShOk p.1.1 p.1.2 p.2) (fun p => [treeD nu p.1.1, lotN nu p.1.2, .tuple (lotsD nu p.2)]) fun p => .bool (apart p.1.1 p.1.2 p.2)
abbrev N_areapart : List Str := ["tree", "top", "others", "nodes", "ways", "lot", "node"]
theorem sc_areapart : FnScope N_areapart ["tree", "top", "others"] (defScope s_areapart) := ⟨rfl, rfl, rfl, by decide +kernel, rfl, by decide +kernel, by decide +kernel⟩
theorem ok_areapart {k : Nat} (N : Nu nu) (hk : 3 ≤ k) (F : FnP K "are_apart" s_areapart f fd) (B : Bi mg) (K1 : Kept P w K mg base "nodes_of" k ["tree"] (spNodesOf K nu 7) f1 fd1) (K2 : KeptK P w K mg base "way_of" 3 2 ["nodes", "lot", "is_top"] "is_top" (spWayOf K nu) f2 fd2)
    {ds : List Value} (hds : Vals [.bl false] ds) (b2 : Binds K fd2 ["nodes", "lot", "is_top"] ds) : FnOk P w K mg base CX0 (k + 1) f fd ["tree", "top", "others"] (spApart K nu) := by
  refine F.ok sc_areapart (fun vs H Q E h => sp_len h fun _ => rfl) (fun cdv A outer s H vs Q E hr h => ?_)
  obtain ⟨⟨⟨t, top⟩, others⟩, Hb, ho, e, hv, q⟩ := h
  have ho : ShOk t top others := ho
  refine ⟨_, PSs.nox (pss_cons (ps_set (i := 3) sc_areapart.nd rfl (Or.inr rfl) (p_call K1 hr (pa_cons (pv 0) pa_nil)))
    (pss_cons (ps_set (i := 4) sc_areapart.nd rfl (Or.inl rfl) (pe_op op_cat (p_callK K2 hr (pa_cons (pv 3) (pa_cons (pv 1) pa_nil)) pe_bl hk)
      (p_lc2 (own := [("lot", 5), ("node", 6)]) (vs1 := [6]) (j := 5) (j1 := 6) rfl sc_areapart.nd rfl rfl (q_tup K (pv 2)) (blkOk_by (N := N_areapart) (sc := defScope s_areapart) (by decide +kernel)) (by decide)
        (fun _ _ _ _ _ => q_list K (pe_call K2.ok (hr.mono hk) rfl K2.mg K2.kp b2 hds pass0 (E := E0) (pa_cons (pv 3) (pa_cons (pv 5) pa_nil)))) (fun _ _ _ _ _ => pv 6))))
    (pss_one (ps_ret (pe_cmpR op_eq (p_lenset B rfl hr.units (pv 4)) (p_len K B (pv 4)) (nomark _)))))), ?_⟩
  obtain ⟨v1, v2, v3, rfl, h1, h2, h3⟩ := dp3 hv
  have n1 := nodes_len t
  have hfew := ho.few
  have small : ∀ n ∈ nodesT t, n.length ≤ 100 := fun n hn => by have := nodes_small t n hn; omega
  have hflat := ho.flat
  have hmet := ho.met
  have e2 : (others.flatMap fun d => (wayT (nodesT t) d).map fun c => lotN nu c) = lotsD nu (others.flatMap fun lot => wayT (nodesT t) lot) := by
    show _ = (others.flatMap fun lot => wayT (nodesT t) lot).map (lotN nu)
    rw [List.map_flatMap]
  have e3 : lotsD nu (metT (nodesT t) top) ++ lotsD nu (others.flatMap fun lot => wayT (nodesT t) lot) = lotsD nu (waysT t top others) := by
    show _ = (metT (nodesT t) top ++ _).map (lotN nu)
    rw [List.map_append]
  have hw : (waysT t top others).length < 64 := by
    show (metT (nodesT t) top ++ _).length < 64
    rw [List.length_append]
    omega
  refine sd_set (Hb := Hb) (evd_call (eva_cons (evd_var rfl h1) eva_nil) t ⟨ho.dp, by omega⟩ rfl) e fun vn Hc Hd k1 hn => ?_
  refine sd_set (Hb := Hc) (evd_is (evn_cat (evn_callK (eva_cons (evd_var rfl hn) (eva_cons (evd_var rfl (dp_mono k1.bas _ _ h2)) eva_nil)) evd_bl ((nodesT t, top), true) ⟨by show (nodesT t).length ≤ 1000; omega, ho.tp, small, fun z => Bool.noConfusion z⟩ rfl rfl)
    (evb_lc2 (bs := others) (enc := lotN nu) (en2 := lotN nu) (fun lot => wayT (nodesT t) lot) (fun _ c => lotN nu c) (wad_tup (evd_var rfl (dp_mono k1.bas _ _ h3))) (by rw [e2, List.length_map]; omega) (fun _ => rfl) (fun _ _ => rfl)
      (fun d hd v Hc2 e4 hdv => wad_list (evn_callD (eva_cons (evd_var rfl (dp_mono e4 _ _ hn)) (eva_cons (evd_var rfl hdv) eva_nil)) ((nodesT t, d), false) ⟨by show (nodesT t).length ≤ 1000; omega, (ho.lots d hd).1, small, fun _ => has_head (ho.lots d hd).2⟩ rfl).asD)
      (fun d hd c hc v u Hc2 e4 h4 h5 => evd_var rfl h5)) (by rw [e2, List.length_map, List.length_map]; show (metT (nodesT t) top).length + _ ≤ _; omega)).asD (b := .list (lotsD nu (waysT t top others))) (by rw [e2, ← e3]; rfl)) k1.sub fun vw Hd2 He k2 hwd => ?_
  refine sd_ret (evd_is (evd_op (evd_lenset (ls := waysT t top others) (eva_cons (evd_var rfl hwd) eva_nil) hw N.mono) (e_len (evd_var rfl hwd) (dlen_lots _).1 (by omega)) rd_eqI) ?_) k2.sub fun v Hb' H' k hv => q v Hb' H' ((k1.trans k2).trans k) hv
  refine congrArg PyData.bool ?_
  show _ = nodupL (waysT t top others)
  rw [Bool.eq_iff_iff, decide_eq_true_eq, nodupL_iff, ← du_nodup]
  omega
/-! share -/
abbrev Sh := ((T × T) × List Nat) × List (List Nat)
abbrev spShare (K : PySem.W.Frag) (nu : Nat → Str) : Sp := spD K (fun p : Sh => ShOk p.1.1.1 p.1.2 p.2 ∧ ShOk p.1.1.2 p.1.2 p.2) (fun p => [treeD nu p.1.1.1, treeD nu p.1.1.2, lotN nu p.1.2, .tuple (lotsD nu p.2)]) fun p => .bool (share p.1.1.1 p.1.1.2 p.1.2 p.2)
abbrev N_share : List Str := ["one", "other", "top", "others", "lots", "lot"]
theorem sc_share : FnScope N_share ["one", "other", "top", "others"] (defScope s_share) := ⟨rfl, rfl, rfl, by decide +kernel, rfl, by decide +kernel, by decide +kernel⟩
theorem eqv_full (l : List Nat) : (!PyData.eqv (lotN nu l) (.tuple [])) = full l := by
  cases l with
  | nil => simp [PyData.eqv, PyData.eqvAll, full]
  | cons a l => simp [PyData.eqv, PyData.eqvAll, full]
theorem shaped_opt (N : Nu nu) {t : T} {m : List Nat} (h : depthT t ≤ 60) : SeqAt.shaped (optD nu (partT t m)) = true ∧ nd (optD nu (partT t m)) = true := by
  cases e : partT t m with
  | none => exact ⟨(by decide : SeqAt.shaped PyData.none = true), (by decide : nd PyData.none = true)⟩
  | some u => exact ⟨shaped_tree N (by have := part_depth t m u e; omega), (tree_shape N u).2.2⟩
theorem ok_share {k k2 : Nat} (N : Nu nu) (hk : k2 ≤ k) (F : FnP K "share" s_share f fd) (B : Bi mg) (K1 : Kept P w K mg base "are_apart" k ["tree", "top", "others"] (spApart K nu) f1 fd1) (K2 : Kept P w K mg base "tree_to" k2 ["tree", "names"] (spTreeTo K nu 7) f2 fd2) :
    FnOk P w K mg base CX0 (k + 1) f fd ["one", "other", "top", "others"] (spShare K nu) := by
  refine F.ok sc_share (fun vs H Q E h => sp_len h fun _ => rfl) (fun cdv A outer s H vs Q E hr h => ?_)
  obtain ⟨⟨⟨⟨a, b⟩, top⟩, others⟩, Hb, ⟨oa, ob⟩, e, hv, q⟩ := h
  have oa : ShOk a top others := oa
  have ob : ShOk b top others := ob
  refine ⟨_, PSs.nox (pss_cons (p_setlcT (own := [("lot", 5)]) (i := 4) (j := 5) rfl sc_share.nd rfl rfl (q_tup K (pe_op (q_catA K) (pe_tup (pa_cons (pv 2) pa_nil)) (pv 3))) (blkOk_by (N := N_share) (sc := defScope s_share) (by decide +kernel)) (fun _ _ _ _ _ => pt_cmpR (q_neD K hr.units) (pv 5) (pe_tup pa_nil) (nomark _)) (fun _ _ _ _ _ => pv 5))
    (pss_cons (ps_if (pt_not (pt_val (p_all K B rfl (p_lc (own := [("lot", 5)]) (j := 5) rfl sc_share.nd rfl (q_list K (pv 4)) (blkOk_by (N := N_share) (sc := defScope s_share) (by decide +kernel))
      (fun _ _ _ _ _ => pe_cmpR (q_eqD K hr.units) (p_call K2 hr (pa_cons (pv 0) (pa_cons (pv 5) pa_nil)) hk) (p_call K2 hr (pa_cons (pv 1) (pa_cons (pv 5) pa_nil)) hk) (nomark _)))))) (pss_one (ps_ret pe_bl)) pss_nil)
    (pss_one (ps_ret (pe_and (p_call K1 hr (pa_cons (pv 0) (pa_cons (pv 2) (pa_cons (pv 3) pa_nil)))) (pe_one (p_call K1 hr (pa_cons (pv 1) (pa_cons (pv 2) (pa_cons (pv 3) pa_nil)))))))))), ?_⟩
  obtain ⟨v1, v2, v3, v4, rfl, h1, h2, h3, h4⟩ := dp4 hv
  have hoth := oa.oth
  refine sd_set (Hb := Hb) (evb_lc (bs := top :: others) (enc := lotN nu) full (lotN nu) (wad_tup (evd_is (evd_op (evd_tup (eva_cons (evd_var rfl h3) eva_nil) (by exact (by decide : 1 ≤ 100000))) (evd_var (d := .tuple (lotsD nu others)) rfl h4) (rd_catA (by rw [List.length_map, List.length_singleton]; omega))) rfl)) (by rw [List.length_cons]; omega) (fun _ => rfl)
    (fun d hd v Hc e3 hdv => evt_is (evt_test (evd_op (evd_var (d := lotN nu d) rfl hdv) (evd_tup eva_nil) (rd_neD (shaped_lot N d) (by decide) (nd_lot d) (by decide)))) (eqv_full d)) fun d hd _ v Hc e3 hdv => evd_var rfl hdv).asD e fun vl Hc Hd k1 hl => ?_
  have hlen : ((top :: others).filter full).length ≤ 5 := by have := List.length_filter_le full (top :: others); rw [List.length_cons] at this; omega
  refine sd_if (Hb := Hc) (evt_not (evt_B (evd_is (e_all (bs := ((top :: others).filter full).map fun l => beqO (partT a l) (partT b l)) (evn_is (evb_lc1 (bs := (top :: others).filter full) (enc := lotN nu) (fun l => .bool (beqO (partT a l) (partT b l))) (wad_list (evd_var rfl hl)) (by omega) (fun _ => rfl) fun d hd v Hc2 e3 hdv => ?_) ?_)) (b := .bool (sameAll a b (top :: others))) ?_))) k1.sub (fun z H1 e1 => ?_) fun z H1 e1 => ?_
  · have s1 := shaped_opt N (t := a) (m := d) (by have := oa.dp; omega)
    have s2 := shaped_opt N (t := b) (m := d) (by have := ob.dp; omega)
    have ee := k1.bas.trans e3
    exact evd_is (evd_op (evd_call (eva_cons (evd_var rfl (dp_mono ee _ _ h1)) (eva_cons (evd_var rfl hdv) eva_nil)) (a, d) ⟨oa.dp, by decide⟩ rfl) (evd_call (eva_cons (evd_var rfl (dp_mono ee _ _ h2)) (eva_cons (evd_var rfl hdv) eva_nil)) (b, d) ⟨ob.dp, by decide⟩ rfl) (rd_eqD s1.1 s2.1 s1.2 s2.2)) (congrArg PyData.bool (eqv_opt N _ _))
  · simp only [List.map_map, bools, Function.comp_def]
  · unfold sameAll
    rw [List.all_map]
    rfl
  · have hs : sameAll a b (top :: others) = false := by simpa using z
    have fin : ∀ v Hb' H', Kn Hc Hd Hb' H' → Dp K Hb' v (.bool false) → Q v H' := fun v Hb' H' k hv => q v Hb' H' (k1.trans k) (by show Dp K Hb' v (.bool (sameAll a b (top :: others) && _)); rw [hs]; exact hv)
    exact sd_ret evd_bl (k1.sub.trans e1) fun v Hb' H' k hv => fin v Hb' H' (kn_up e1 k) hv
  · have hs : sameAll a b (top :: others) = true := by simpa using z
    have fin : ∀ v Hb' H', Kn Hc Hd Hb' H' → Dp K Hb' v (.bool (apart a top others && apart b top others)) → Q v H' := fun v Hb' H' k hv => q v Hb' H' (k1.trans k) (by show Dp K Hb' v (.bool (sameAll a b (top :: others) && _)); rw [hs]; exact hv)
    dsimp only [tNext]
    refine sd_ret (Hb := Hc) (d := .bool (apart a top others && apart b top others)) ?_ (k1.sub.trans e1) fun v Hb' H' k hv => fin v Hb' H' (kn_up e1 k) hv
    exact evd_andV (evd_call (eva_cons (evd_var rfl (dp_mono k1.bas _ _ h1)) (eva_cons (evd_var rfl (dp_mono k1.bas _ _ h3)) (eva_cons (evd_var rfl (dp_mono k1.bas _ _ h4)) eva_nil))) ((a, top), others) oa rfl)
      fun _ => evd_call (eva_cons (evd_var rfl (dp_mono k1.bas _ _ h2)) (eva_cons (evd_var rfl (dp_mono k1.bas _ _ h3)) (eva_cons (evd_var rfl (dp_mono k1.bas _ _ h4)) eva_nil))) ((b, top), others) ob rfl
end
end Jt

set_option Elab.async false
set_option linter.all false
set_option maxRecDepth 100000
set_option maxHeartbeats 4000000
/-! Walks: heads_in, is_above. -/
namespace Jt
open PySem PySem.Spec PyProof.Rows L2 PySem.W
section
variable {P : Program} {w : World} {K : PySem.W.Frag} {mg : Str → Option Value} {base : Heap} {f f1 f2 f3 : Addr} {fd fd1 fd2 fd3 : FuncData} {nu : Nat → Str}
/-! heads_in -/
structure HdOk (t : T) (others : List (List Nat)) : Prop where
  dp : depthT t < 7
  few : (leaves t).length ≤ 6
  oth : others.length ≤ 4
  nd : others.Nodup
  lots : ∀ l ∈ others, l.length ≤ 100 ∧ ∀ i ∈ l, i ∈ leaves t
abbrev spHeads (K : PySem.W.Frag) (nu : Nat → Str) : Sp := spD K (fun p : T × List (List Nat) => HdOk p.1 p.2) (fun p => [treeD nu p.1, .tuple (lotsD nu p.2)]) fun p => dctN nu p.2 fun l => lotN nu (headT (nodesT p.1) l)
abbrev N_headsin : List Str := ["tree", "others", "nodes", "lot"]
theorem sc_headsin : FnScope N_headsin ["tree", "others"] (defScope s_headsin) := ⟨rfl, rfl, rfl, by decide +kernel, rfl, by decide +kernel, by decide +kernel⟩
theorem ok_headsin {k : Nat} (N : Nu nu) (hk : 2 ≤ k) (F : FnP K "heads_in" s_headsin f fd) (B : Bi mg) (K1 : Kept P w K mg base "nodes_of" k ["tree"] (spNodesOf K nu 7) f1 fd1) (K2 : Kept P w K mg base "head_of" 2 ["nodes", "lot"] (spHeadOf K nu) f2 fd2) :
    FnOk P w K mg base CX0 (k + 1) f fd ["tree", "others"] (spHeads K nu) := by
  refine F.ok sc_headsin (fun vs H Q E h => sp_len h fun _ => rfl) (fun cdv A outer s H vs Q E hr h => ?_)
  obtain ⟨⟨t, others⟩, Hb, ho, e, hv, q⟩ := h
  have ho : HdOk t others := ho
  refine ⟨_, PSs.nox (pss_cons (ps_set (i := 2) sc_headsin.nd rfl (Or.inr rfl) (p_call K1 hr (pa_cons (pv 0) pa_nil)))
    (pss_one (ps_ret (pe_dcT (own := [("lot", 3)]) (g := gName 3) rfl (hu_of hr) sc_headsin.nd (q_tup K (pv 1)) (blkOk_by (N := N_headsin) (sc := defScope s_headsin) (by decide +kernel)) (fun _ _ _ _ _ => pg_name (i := 3) sc_headsin.nd rfl (Or.inl rfl)) (fun _ _ _ _ _ => pv 3)
      (fun _ _ _ _ _ => p_call K2 hr (pa_cons (pv 2) (pa_cons (pv 3) pa_nil)) hk))))), ?_⟩
  obtain ⟨v1, v2, rfl, h1, h2⟩ := dp2 hv
  have n1 := nodes_len t
  have hfew := ho.few
  refine sd_set (Hb := Hb) (evd_call (eva_cons (evd_var rfl h1) eva_nil) t ⟨ho.dp, by omega⟩ rfl) e fun vn Hc Hd k1 hn => ?_
  refine sd_ret (Hb := Hc) (evd_dc (ls := others) (fun l => lotN nu (headT (nodesT t) l)) N.mono (wad_tup (evd_var rfl (dp_mono k1.bas _ _ h2))) (by have := ho.oth; omega) ho.nd (fun _ => rfl) (fun l hl v Hc2 e3 hd => evd_var rfl hd) fun l hl v Hc2 e3 hd => ?_) k1.sub fun v Hb' H' k hv => q v Hb' H' (k1.trans k) hv
  exact evd_call (eva_cons (evd_var rfl (dp_mono e3 _ _ hn)) (eva_cons (evd_var rfl hd) eva_nil)) (nodesT t, l) ⟨by show (nodesT t).length ≤ 1000; omega, (ho.lots l hl).1, has_head (ho.lots l hl).2⟩ rfl
/-! is_above -/
structure AbI where
  others : List (List Nat)
  ha : List Nat → List Nat
  hb : List Nat → List Nat
  lot : List Nat
  mate : List Nat
structure AbOk (p : AbI) : Prop where
  lm : p.lot ∈ p.others
  mm : p.mate ∈ p.others
  sm : ∀ l ∈ p.others, (p.ha l).length ≤ 100 ∧ (p.hb l).length ≤ 100
abbrev headsD (nu : Nat → Str) (others : List (List Nat)) (ha hb : List Nat → List Nat) : PyData := .list ([ha, hb].map fun h => dctN nu others fun l => lotN nu (h l))
def abR (p : AbI) : Bool := [p.ha, p.hb].any fun h => !eqB (h p.lot) (h p.mate) && hasAll (h p.lot) (h p.mate)
abbrev spAbove (K : PySem.W.Frag) (nu : Nat → Str) : Sp := spD K AbOk (fun p => [headsD nu p.others p.ha p.hb, lotN nu p.lot, lotN nu p.mate]) fun p => .bool (abR p)
abbrev N_isabove : List Str := ["heads", "lot", "mate", "some"]
theorem sc_isabove : FnScope N_isabove ["heads", "lot", "mate"] (defScope s_isabove) := ⟨rfl, rfl, rfl, by decide +kernel, rfl, by decide +kernel, by decide +kernel⟩
theorem ok_isabove (N : Nu nu) (F : FnP K "is_above" s_isabove f fd) (B : Bi mg) (K1 : Kept P w K mg base "has_all" 1 ["lot", "names"] (spHasAll K nu) f1 fd1) : FnOk P w K mg base CX0 2 f fd ["heads", "lot", "mate"] (spAbove K nu) := by
  refine F.ok sc_isabove (fun vs H Q E h => sp_len h fun _ => rfl) (fun cdv A outer s H vs Q E hr h => ?_)
  obtain ⟨⟨others, ha, hb, lot, mate⟩, Hb, ⟨o1, o2, o3⟩, e, hv, q⟩ := h
  refine ⟨_, PSs.nox (pss_one (ps_ret (p_any K B rfl (p_lc (own := [("some", 3)]) (j := 3) rfl sc_isabove.nd rfl (q_list K (pv 0)) (blkOk_by (N := N_isabove) (sc := defScope s_isabove) (by decide +kernel))
    (fun _ _ _ _ _ => pe_and (pe_cmpR (q_neD K hr.units) (pe_dget (hu_of hr) (pv 3) (pv 1) (fun _ _ => rfl)) (pe_dget (hu_of hr) (pv 3) (pv 2) (fun _ _ => rfl)) (nomark _))
      (pe_one (p_call K1 hr (pa_cons (pe_dget (hu_of hr) (pv 3) (pv 1) (fun _ _ => rfl)) (pa_cons (pe_dget (hu_of hr) (pv 3) (pv 2) (fun _ _ => rfl)) pa_nil))))))))), ?_⟩
  obtain ⟨v1, v2, v3, rfl, h1, h2, h3⟩ := dp3 hv
  refine sd_ret (evd_is (e_any (bs := [ha, hb].map fun h => !eqB (h lot) (h mate) && hasAll (h lot) (h mate)) (evn_is (evb_lc1 (bs := [ha, hb]) (enc := fun h => dctN nu others fun l => lotN nu (h l)) (fun h => .bool (!eqB (h lot) (h mate) && hasAll (h lot) (h mate))) (wad_list (evd_var rfl h1)) (by exact (by decide : 2 ≤ 40000)) (fun _ => rfl) fun h hh v Hc e3 hd => ?_) ?_)) ?_) e q
  · have hs : (h mate).length ≤ 100 := by
      have := o3 mate o2
      rcases List.mem_cons.mp hh with z | z
      · rw [z]; exact this.1
      · rw [List.mem_singleton.mp z]; exact this.2
    have g1 : EvD K (tDGet (tVar 3) (tVar 1)) _ Hc (lotN nu (h lot)) := evd_dget (σ := (wipe (start N_isabove [v1, v2, v3]) [3]).set 3 (some v)) (g := fun l => lotN nu (h l)) N.mono (evd_var rfl hd) (evd_var rfl (dp_mono e3 _ _ h2)) o1
    have g2 : EvD K (tDGet (tVar 3) (tVar 2)) _ Hc (lotN nu (h mate)) := evd_dget (σ := (wipe (start N_isabove [v1, v2, v3]) [3]).set 3 (some v)) (g := fun l => lotN nu (h l)) N.mono (evd_var rfl hd) (evd_var rfl (dp_mono e3 _ _ h3)) o2
    exact evd_andV (evd_is (evd_op g1 g2 (rd_neD (shaped_lot N _) (shaped_lot N _) (nd_lot _) (nd_lot _))) (by rw [eqv_lot N])) fun _ => evd_call (eva_cons g1 (eva_cons g2 eva_nil)) (h lot, h mate) hs rfl
  · simp only [List.map_map, bools, Function.comp_def]
  · rw [List.any_map]; rfl
end
end Jt

set_option Elab.async false
set_option linter.all false
set_option maxRecDepth 100000
set_option maxHeartbeats 1000000
/-! Walks: order_of. -/
namespace Jt
open PySem PySem.Spec PyProof.Rows L2 PySem.W
section
variable {P : Program} {w : World} {K : PySem.W.Frag} {mg : Str → Option Value} {base : Heap} {f f1 f2 f3 : Addr} {fd fd1 fd2 fd3 : FuncData} {nu : Nat → Str}
/-- x.append(e) -/
theorem sd_append {σ : L2.St} {Hb H : Hp} {D : Ends} {te : TE} {d : PyData} {i : Nat} {p : Addr} {xs : List V} (hi : σ[i]? = some (some (.ref p))) (hp : H p = some (.lst xs)) (hz : xs.length ≤ 50000) (h : EvD K te σ Hb d) (e : Ex Hb H)
    (k : ∀ v Hb' H', Kn Hb H Hb' H' → Dp K Hb' v d → D.nx σ (upd H' p (.lst (xs ++ [v])))) : tDrop (tBM K "list" rAppend (tVar i) (tCons te tNil)) D σ H :=
  ⟨.ref p, hi, .inl ⟨rfl, xs, .inl (.inl hp)⟩, h H e _ fun v Hb' H' kn hv => ⟨p, xs, v, rfl, rfl, kn.cur _ _ hp, Evl.sz_lt (by omega), k v Hb' H' kn hv⟩⟩
/-- x.remove(e) -/
theorem erase_at (x : List Nat) : ∀ l : List (List Nat), x ∈ l → ∃ j, l[j]? = some x ∧ (∀ m c, m < j → l[m]? = some c → eqB c x = false) ∧ eraseM x l = l.eraseIdx j
  | [], h => by cases h
  | y :: r, h => by
    by_cases e : eqB x y = true
    · have e2 := eqB_iff.mp e
      subst e2
      exact ⟨0, rfl, fun m c hm => absurd hm (Nat.not_lt_zero _), by show cond (eqB x x) r _ = _; rw [e]; rfl⟩
    · have e0 : eqB x y = false := by simpa using e
      have hr : x ∈ r := (List.mem_cons.mp h).elim (fun z => absurd (by rw [z]; exact eqB_self y) e) id
      obtain ⟨j, h1, h2, h3⟩ := erase_at x r hr
      refine ⟨j + 1, by simpa using h1, fun m c hm hc => ?_, by show cond (eqB x y) r (y :: eraseM x r) = _; rw [e0, h3]; rfl⟩
      cases m with
      | zero =>
        have : y = c := by simpa using hc
        rw [← this, eqB_eq]
        rw [eqB_eq] at e0
        rw [decide_eq_false_iff_not] at e0 ⊢
        exact fun z => e0 z.symm
      | succ m => exact h2 m c (by omega) (by simpa using hc)
theorem dpAll_erase {H : Hp} : ∀ {xs : List V} {ds : List PyData} (j : Nat), DpAll K H xs ds → DpAll K H (xs.eraseIdx j) (ds.eraseIdx j)
  | _, _, _, .nil => .nil
  | _, _, 0, .cons _ t => t
  | _, _, j + 1, .cons h t => .cons h (dpAll_erase j t)
theorem map_erase {α β : Type} (g : α → β) : ∀ (l : List α) (j : Nat), (l.eraseIdx j).map g = (l.map g).eraseIdx j
  | [], _ => rfl
  | _ :: _, 0 => rfl
  | a :: l, j + 1 => by simp [map_erase g l j]
theorem sd_remove (N : Nu nu) {σ : L2.St} {Hb H : Hp} {D : Ends} {te : TE} {i : Nat} {p : Addr} {xs : List V} {ls : List (List Nat)} {x : List Nat} (hi : σ[i]? = some (some (.ref p))) (hp : H p = some (.lst xs)) (ha : DpAll K Hb xs (lotsD nu ls)) (hx : x ∈ ls) (h : EvD K te σ Hb (lotN nu x)) (e : Ex Hb H)
    (k : ∀ j H', Ex H H' → eraseM x ls = ls.eraseIdx j → D.nx σ (upd H' p (.lst (xs.eraseIdx j)))) : tDrop (tBM K "list" (rRemD K) (tVar i) (tCons te tNil)) D σ H := by
  obtain ⟨j, h1, h2, h3⟩ := erase_at x ls hx
  refine ⟨.ref p, hi, .inl ⟨rfl, xs, .inl (.inl hp)⟩, h H e _ fun v Hb' H' kn hv => ⟨p, xs, v, lotsD nu ls, lotN nu x, j, rfl, rfl, kn.cur _ _ hp, dpAll_mono (e.trans kn.cur) _ _ ha, dp_mono kn.sub _ _ hv, shaped_lot N x, fun c hc => ?_, nd_lot x, fun c hc => ?_, ⟨lotN nu x, ?_, by rw [eqv_lot N]; exact eqB_self x⟩, fun m c hm hc => ?_, k j H' kn.cur h3⟩⟩
  · obtain ⟨l, _, rfl⟩ := List.mem_map.mp hc
    exact shaped_lot N l
  · obtain ⟨l, _, rfl⟩ := List.mem_map.mp hc
    exact nd_lot l
  · rw [List.getElem?_map, h1]; rfl
  · rw [List.getElem?_map] at hc
    cases q : ls[m]? with
    | none => rw [q] at hc; cases hc
    | some y =>
      rw [q] at hc
      have e2 : lotN nu y = c := Option.some.inj hc
      rw [← e2, eqv_lot N]
      exact h2 m y hm q
/-! order_of -/
abbrev OrI := (T × T) × List (List Nat)
def isNonV : V → Bool
  | .non => true
  | _ => false
/-- it tells None just where there is no order -/
def spOrder (K : PySem.W.Frag) (nu : Nat → Str) : Sp := fun vs H Q _ => ∃ (i : OrI) (Hb : Hp), HdOk i.1.1 i.2 ∧ HdOk i.1.2 i.2 ∧ Ex Hb H ∧ DpAll K Hb vs [treeD nu i.1.1, treeD nu i.1.2, .tuple (lotsD nu i.2)] ∧ ∀ v H', Ex H H' → decide (v = V.non) = (!ordered i.1.1 i.1.2 i.2) → Q v H'
abbrev N_orderof : List Str := ["one", "other", "others", "heads", "found", "left", "free", "lot", "mate"]
theorem sc_orderof : FnScope N_orderof ["one", "other", "others"] (defScope s_orderof) := ⟨rfl, rfl, rfl, by decide +kernel, rfl, by decide +kernel, by decide +kernel⟩
theorem erase_len {x : List Nat} {l : List (List Nat)} {n : Nat} (h : x ∈ l) (hl : l.length = n + 1) : (eraseM x l).length = n := by
  obtain ⟨j, h1, _, h3⟩ := erase_at x l h
  have hj : j < l.length := (List.getElem?_eq_some_iff.mp h1).1
  rw [h3, List.length_eraseIdx_of_lt hj, hl]
  rfl
theorem erase_sub {x y : List Nat} {l : List (List Nat)} (h : y ∈ eraseM x l) : y ∈ l := by
  induction l with
  | nil => exact h
  | cons z r ih =>
    have h' : y ∈ cond (eqB x z) r (z :: eraseM x r) := h
    cases e : eqB x z with
    | true => rw [e] at h'; exact List.mem_cons_of_mem _ h'
    | false =>
      rw [e] at h'
      rcases List.mem_cons.mp h' with q | q
      · rw [q]; exact List.mem_cons_self
      · exact List.mem_cons_of_mem _ (ih q)
theorem ok_orderof {k : Nat} (N : Nu nu) (hk : 2 ≤ k) (F : FnP K "order_of" s_orderof f fd) (B : Bi mg) (K1 : Kept P w K mg base "heads_in" k ["tree", "others"] (spHeads K nu) f1 fd1) (K2 : Kept P w K mg base "is_above" 2 ["heads", "lot", "mate"] (spAbove K nu) f2 fd2) :
    FnOk P w K mg base CX0 (k + 1) f fd ["one", "other", "others"] (spOrder K nu) := by
  refine F.ok sc_orderof (fun vs H Q E h => by obtain ⟨i, Hb, _, _, _, hv, _⟩ := h; exact dpAll_len hv) (fun cdv A outer s H vs Q E hr h => ?_)
  obtain ⟨⟨⟨a, b⟩, others⟩, Hb, oa, ob, e, hv, q⟩ := h
  have oa : HdOk a others := oa
  have ob : HdOk b others := ob
  have huR : (A.deeper (envOfC "order_of" (defScope s_orderof) s.heap.objs.size f cdv)).units + 66 < cLine := by have := hr.un; omega
  refine ⟨_, PSs.nox (pss_cons (ps_set (i := 3) sc_orderof.nd rfl (Or.inr rfl) (pe_lst (pa_cons (p_call K1 hr (pa_cons (pv 0) (pa_cons (pv 2) pa_nil))) (pa_cons (p_call K1 hr (pa_cons (pv 1) (pa_cons (pv 2) pa_nil))) pa_nil))))
    (pss_cons (ps_set (i := 4) sc_orderof.nd rfl (Or.inl rfl) (pe_lst pa_nil))
    (pss_cons (ps_set (i := 5) sc_orderof.nd rfl (Or.inr rfl) (p_list K B (pv 2)))
    (pss_cons (ps_while PassesOwn.never (pt_cmpR (q_neD K hr.units) (pv 5) (pe_lst pa_nil) (nomark _))
      (pss_cons (p_setlcT (own := [("lot", 7)]) (i := 6) (j := 7) rfl sc_orderof.nd rfl rfl (q_list K (pv 5)) (blkOk_by (N := N_orderof) (sc := defScope s_orderof) (by decide +kernel))
        (fun _ _ _ _ _ => pt_not (pt_val (p_any K B rfl (p_lcT (own := [("mate", 8)]) (j := 8) rfl sc_orderof.nd rfl (q_list K (pv 5)) (blkOk_by (by kernel_rfl)) (fun _ _ _ _ _ => pt_cmpR (q_neD K hr.units) (pv 8) (pv 7) (nomark _)) (fun _ _ _ _ _ => p_call K2 hr (pa_cons (pv 3) (pa_cons (pv 8) (pa_cons (pv 7) pa_nil))) hk)))))
        (fun _ _ _ _ _ => pv 7))
      (pss_cons (ps_if (pt_cmpR (q_eqD K hr.units) (pv 6) (pe_lst pa_nil) (nomark _)) (pss_one (ps_ret pe_non)) pss_nil)
      (pss_cons (ps_expr (pe_bm PySem.F.plainAttrs_list PySem.F.slot_list_append PySem.F.type_list_append mt_append (pv 4) (pa_cons (pe_ix (q_ixL K) (pv 6) pe_int (fun _ _ => rfl)) pa_nil)))
      (pss_one (ps_expr (pe_bm PySem.F.plainAttrs_list PySem.F.slot_list_remove PySem.F.type_list_remove (mt_removeD huR) (pv 5) (pa_cons (pe_ix (q_ixL K) (pv 6) pe_int (fun _ _ => rfl)) pa_nil))))))))
    (pss_one (ps_ret (pv 4))))))), ?_⟩
  obtain ⟨v1, v2, v3, rfl, h1, h2, h3⟩ := dp3 hv
  have hoth := oa.oth
  refine sd_set (Hb := Hb) (d := headsD nu others (headT (nodesT a)) (headT (nodesT b))) (evn_lst (eva_cons (evd_call (eva_cons (evd_var rfl h1) (eva_cons (evd_var rfl h3) eva_nil)) (a, others) oa rfl) (eva_cons (evd_call (eva_cons (evd_var rfl h2) (eva_cons (evd_var rfl h3) eva_nil)) (b, others) ob rfl) eva_nil)) (by exact (by decide : 2 ≤ 100000))).asD e fun vh Hb0 H0 k0 hh => ?_
  refine sd_setN (K := K) (Hb := Hb0) (evn_lst eva_nil) k0.sub fun pf xf Hb1 H1 k1 f1n f1h f1c f1a => ?_
  refine sd_setN (Hb := Hb1) (evn_list (evd_var (d := .tuple (lotsD nu others)) rfl (dp_mono (k0.bas.trans k1.bas) _ _ h3) |> fun z => eva_cons z eva_nil) (.inr rfl)) k1.sub fun pl xl Hb2 H2 k2 l2n l2h l2c l2a => ?_
  obtain ⟨fh2, fc2⟩ := k2.hid f1h f1c
  have hne : pf ≠ pl := fun z => by rw [← z, f1c] at l2n; cases l2n
  have hh2 : Dp K Hb2 vh (headsD nu others (headT (nodesT a)) (headT (nodesT b))) := dp_mono (k1.bas.trans k2.bas) _ _ hh
  have k02 : Kn Hb H Hb2 H2 := (k0.trans k1).trans k2
  -- the loop: left stands at pl
  refine sd_while (Hb := upd Hb2 pl (.lst xl)) (fun m σ' Hc H' => ∃ xs left fx c6 c7 c8, σ' = [some v1, some v2, some v3, some vh, some (.ref pf), some (.ref pl), c6, c7, c8] ∧ Hc = upd Hb2 pl (.lst xs) ∧ Ex Hc H' ∧ Ex H H' ∧ H' pf = some (.lst fx) ∧ fx.length + left.length ≤ 4 ∧ DpAll K Hb2 xs (lotsD nu left) ∧
      (∀ l ∈ left, l ∈ others) ∧ m = left.length ∧ orderT a b left.length left = ordered a b others) others.length ⟨xl, others, xf, none, none, none, rfl, rfl, fun c o z => ?_, k02.cur, fc2, ?_, l2a, fun l hl => hl, rfl, rfl⟩ (fun m σ' Hc H' ⟨xs, left, fx, c6, c7, c8, _, _, z, _⟩ => z) ?_
  · by_cases z2 : c = pl
    · subst z2; rw [upd_same] at z; cases z; exact l2c
    · rw [upd_ne z2] at z; exact k2.sub c o z
  · have : xf.length = 0 := by rw [dpAll_len f1a]; rfl
    omega
  rintro m σ' Hc H' ⟨xs, left, fx, c6, c7, c8, rfl, rfl, eH, eH0, hpf, hfx, hxs, hsub, rfl, hord⟩
  have hexp : Ex Hb2 (upd Hb2 pl (.lst xs)) := Evl.Ex.new l2h
  have hleft : Dp K (upd Hb2 pl (.lst xs)) (.ref pl) (.list (lotsD nu left)) := .lst (.inl (.inl upd_same)) (dpAll_mono hexp _ _ hxs)
  have hpfc : upd Hb2 pl (.lst xs) pf = none := by rw [upd_ne hne]; exact fh2
  have sl := shaped_lots (nu := nu) N left
  have ndl : nd (.list (lotsD nu left)) = true := by rw [nd]; exact nd_lots left
  refine ⟨!PyData.eqv (.list (lotsD nu left)) (.list []), evt_test (evd_op (evd_var rfl hleft) (evn_lst eva_nil).asD (rd_neD sl (by decide) ndl (by decide))), fun z H1 e1 => ?_, fun z H1 e1 => ?_⟩
  · cases left with
    | nil => simp [PyData.eqv, PyData.eqvAll] at z
    | cons l0 rest =>
    refine sd_set (Hb := upd Hb2 pl (.lst xs)) (evb_lc (bs := l0 :: rest) (enc := lotN nu) (fun lot => !(((l0 :: rest).filter fun mate => !eqB mate lot).any fun mate => above a b mate lot)) (lotN nu) (wad_list (evd_var rfl hleft)) (by omega) (fun _ => rfl)
      ?t1 (fun lot hl _ v Hc2 e3 hd => evd_var rfl hd)).asD (eH.trans e1) fun vfree Hc2 H2' k3 hfree => ?_
    case t1 =>
      intro lot hl v Hc2 e3 hd
      refine evt_not (evt_B (evd_is (e_any (bs := ((l0 :: rest).filter fun mate => !eqB mate lot).map fun mate => above a b mate lot) (evn_is (evb_lc (bs := l0 :: rest) (enc := lotN nu) (fun mate => !eqB mate lot) (fun mate => .bool (above a b mate lot)) (wad_list (evd_var rfl (dp_mono e3 _ _ hleft))) ?u1 (fun _ => rfl) ?u2 ?u3) ?u4)) ?u5))
      case u1 => omega
      case u2 =>
        intro mate hm u Hc3 e4 hd2
        exact evt_is (evt_test (evd_op (evd_var (d := lotN nu mate) rfl hd2) (evd_var (d := lotN nu lot) rfl (dp_mono e4 _ _ hd)) (rd_neD (shaped_lot N _) (shaped_lot N _) (nd_lot _) (nd_lot _)))) (by rw [eqv_lot N])
      case u3 =>
        intro mate hm _ u Hc3 e4 hd2
        have ok : AbOk (AbI.mk others (headT (nodesT a)) (headT (nodesT b)) mate lot) := ⟨hsub _ hm, hsub _ hl, fun l hl2 => by
          have ha := head_mem (has_head (oa.lots l hl2).2)
          have hb := head_mem (has_head (ob.lots l hl2).2)
          have h1 := nodes_small a _ ha.1
          have h2 := nodes_small b _ hb.1
          have h3 := oa.few
          have h4 := ob.few
          exact ⟨by show (headT (nodesT a) l).length ≤ 100; omega, by show (headT (nodesT b) l).length ≤ 100; omega⟩⟩
        have eq : abR (AbI.mk others (headT (nodesT a)) (headT (nodesT b)) mate lot) = above a b mate lot := by
          unfold abR above aboveIn
          simp [List.any_cons]
        rw [← eq]
        exact evd_call (eva_cons (evd_var rfl (dp_mono ((hexp.trans e3).trans e4) _ _ hh2)) (eva_cons (evd_var rfl hd2) (eva_cons (evd_var rfl (dp_mono e4 _ _ hd)) eva_nil))) (AbI.mk others (headT (nodesT a)) (headT (nodesT b)) mate lot) ok rfl
      case u4 => simp only [List.map_map, bools, Function.comp_def]
      case u5 =>
        refine congrArg PyData.bool ?_
        rw [List.any_map]
        rfl
    have hfree' : Dp K Hc2 vfree (.list (lotsD nu (freeT a b (l0 :: rest)))) := hfree
    have sf := shaped_lots (nu := nu) N (freeT a b (l0 :: rest))
    have nf : nd (.list (lotsD nu (freeT a b (l0 :: rest)))) = true := by rw [nd]; exact nd_lots _
    obtain ⟨pfn, pfc⟩ := k3.hid hpfc (e1 _ _ hpf)
    have fsub : ∀ x ∈ freeT a b (l0 :: rest), x ∈ l0 :: rest := fun x hx => (List.mem_filter.mp hx).1
    have hstep : orderT a b (rest.length + 1) (l0 :: rest) = (match freeT a b (l0 :: rest) with
      | [] => false
      | x :: _ => orderT a b rest.length (eraseM x (l0 :: rest))) := rfl
    have hord' : orderT a b (rest.length + 1) (l0 :: rest) = ordered a b others := hord
    rw [hstep] at hord'
    generalize freeT a b (l0 :: rest) = free at hfree' sf nf fsub hord'
    refine sd_if (Hb := Hc2) (evt_test (evd_op (evd_var rfl hfree') (evn_lst eva_nil).asD (rd_eqD sf (by decide) nf (by decide)))) k3.sub (fun z2 H3 e3 => ?_) fun z2 H3 e3 => ?_
    · have : free = [] := by
        cases free with
        | nil => rfl
        | cons x y => simp [PyData.eqv, PyData.eqvAll] at z2
      subst this
      have ho : ordered a b others = false := hord'.symm
      exact q V.non H3 (eH0.trans ((e1.trans k3.cur).trans e3)) (by show true = !ordered a b others; rw [ho]; rfl)
    · cases free with
      | nil => simp [PyData.eqv, PyData.eqvAll] at z2
      | cons x fr =>
      have hx := fsub x List.mem_cons_self
      refine sd_append (K := K) (Hb := Hc2) (d := lotN nu x) (p := pf) rfl (e3 _ _ pfc) (by omega) (evd_op (evd_var rfl hfree') evd_int (rd_ixL (atI_map (lotN nu) (xs := x :: fr) (j := 0) rfl rfl))) (k3.sub.trans e3) fun v4 Hc4 H4 k4 hv4 => ?_
      have c4 : Ex Hc2 (upd H4 pf (.lst (fx ++ [v4]))) := ex_hid ((k3.sub.trans e3).trans k4.cur) pfn
      have hplc : Hc2 pl = some (.lst xs) := k3.bas _ _ upd_same
      refine sd_remove N (K := K) (Hb := Hc2) (xs := xs) (ls := l0 :: rest) (x := x) (p := pl) rfl (c4 _ _ hplc) (dpAll_mono (hexp.trans k3.bas) _ _ hxs) hx (evd_op (evd_var rfl hfree') evd_int (rd_ixL (atI_map (lotN nu) (xs := x :: fr) (j := 0) rfl rfl))) c4 fun j H5 e5 hj => ?_
      have el : (eraseM x (l0 :: rest)).length = rest.length := erase_len hx rfl
      have e45 : Ex Hb2 H5 := ((hexp.trans k3.bas).trans c4).trans e5
      have b02 : ∀ {c : Addr} {o : HO}, Hb2 c = some o → c ≠ pl := fun z z2 => by rw [z2, l2h] at z; cases z
      refine ⟨rest.length, upd Hb2 pl (.lst (xs.eraseIdx j)), Nat.lt_succ_self _, xs.eraseIdx j, eraseM x (l0 :: rest), fx ++ [v4], some vfree, c7, c8, rfl, rfl, fun c o zz => ?_, ?_, ?_, ?_, ?_, fun l hl => hsub l (erase_sub hl), el.symm, ?_⟩
      · by_cases z3 : c = pl
        · subst z3; rw [upd_same] at zz ⊢; exact zz
        · rw [upd_ne z3] at zz ⊢; exact e45 c o zz
      · have g1 : Ex H (upd H4 pf (.lst (fx ++ [v4]))) := Evl.Ex.mut (eH0.trans (((e1.trans k3.cur).trans e3).trans k4.cur)) (none_back k0.cur f1n)
        exact Evl.Ex.mut (g1.trans e5) (none_back ((k0.trans k1)).cur l2n)
      · rw [upd_ne hne]
        exact e5 _ _ upd_same
      · rw [List.length_append, List.length_singleton, el]
        rw [List.length_cons] at hfx
        omega
      · rw [hj]
        show DpAll K Hb2 _ (((l0 :: rest).eraseIdx j).map (lotN nu))
        rw [map_erase]
        exact dpAll_erase j hxs
      · rw [el]; exact hord'
  · have hl : left = [] := by
      cases left with
      | nil => rfl
      | cons x y => simp [PyData.eqv, PyData.eqvAll] at z
    subst hl
    have ho : ordered a b others = true := hord.symm.trans rfl
    exact ⟨.ref pf, rfl, q (.ref pf) H1 (eH0.trans e1) (by rw [ho]; rfl)⟩
end
end Jt

set_option Elab.async false
set_option linter.all false
set_option maxRecDepth 100000
set_option maxHeartbeats 1000000
/-! Walks: are_parts, lets_forest. -/
namespace Jt
open PySem PySem.Spec PyProof.Rows L2 PySem.W
section
variable {P : Program} {w : World} {K : PySem.W.Frag} {mg : Str → Option Value} {base : Heap} {f f1 f2 f3 f4 : Addr} {fd fd1 fd2 fd3 fd4 : FuncData} {nu : Nat → Str}
/-- a, b = e -/
theorem sd_unpack {σ : L2.St} {Hb H : Hp} {D : Ends} {te : TE} {a b : PyData} {i j : Nat} (h : EvD K te σ Hb (.tuple [a, b])) (e : Ex Hb H) (k : ∀ u v Hb' H', Kn Hb H Hb' H' → Dp K Hb' u a → Dp K Hb' v b → D.nx ((σ.set i (some u)).set j (some v)) H') :
    tAsg te (gTup K 2 (gCons (gName i) (gCons (gName j) gNil))) D σ H := h H e _ fun v Hb' H' kn hv => by
  cases hv with
  | @tup p xs _ hs ha =>
    obtain ⟨u, w, rfl, h1, h2⟩ := dp2 ha
    exact ⟨p, [u, w], rfl, SqT.of (kn.sub _ _ hs), rfl, u, [w], rfl, w, [], rfl, rfl, k u w Hb' H' kn h1 h2⟩
theorem q_unpack (K : PySem.W.Frag) {X : Cx} {i j : Nat} {x y : Str} {px py pos spos : Pos} {e : Expr} {te : TE} {k : Nat} (hc : X.calm = true) (hN : X.N.Nodup) (hi : X.N[i]? = some x) (hj : X.N[j]? = some y) (he : PE X e te) (hK : X.K = K := by rfl)
    (hx : Loc X.env.scope x := by first | exact Or.inl rfl | exact Or.inr rfl) (hfx : X.fn x = true ∨ X.env.scope.names.lookup x = some .local := by first | exact .inl rfl | exact .inr rfl)
    (hy : Loc X.env.scope y := by first | exact Or.inl rfl | exact Or.inr rfl) (hfy : X.fn y = true ∨ X.env.scope.names.lookup y = some .local := by first | exact .inl rfl | exact .inr rfl)
    (hn : (assignEach [.Name x px, .Name y py] X.env).length = 2 := by rfl) (hst : (assignEach [.Name x px, .Name y py] X.env).findIdx? (·.1) = none := by rfl)
    (h1 : (assignEach [.Name x px, .Name y py] X.env) = (assignEach [.Name x px, .Name y py] X.env) := by rfl)
    (hs : swapsWithSole [.Tuple [.Name x px, .Name y py] k pos] e spos.line X.env = pure false := by rfl) (hw : swappedStores [.Tuple [.Name x px, .Name y py] k pos] e X.env = pure none := by rfl) :
    PS X (.Assign [.Tuple [.Name x px, .Name y py] k pos] e spos) (tAsg te (gTup K 2 (gCons (gName i) (gCons (gName j) gNil)))) := by
  subst hK
  exact ps_asg he (pg_tup hc (pgs_cons (pg_name (i := i) hN hi hx hfx) (pgs_cons (pg_name (i := j) hN hj hy hfy) pgs_nil)) hn hst) hs hw
/-! are_parts -/
abbrev Fo := List Nat × List (List Nat)
structure PtOk (nu : Nat → Str) (p : Fo) (names : List Nat) : Prop where
  top : p.1 = [] ∨ GoodLot nu p.1
  oth : ∀ l ∈ p.2, GoodLot nu l
  srt : sortL (du p.2) = p.2
  all : sortN (p.1 ++ p.2.flatten) = names
  few : p.2.length ≤ 10
  sm : names.length ≤ 100
abbrev spParts (K : PySem.W.Frag) (nu : Nat → Str) : Sp := spD K (fun p : Fo × List Nat => PtOk nu p.1 p.2) (fun p => [forD nu p.1, lotN nu p.2]) fun _ => .bool true
abbrev N_areparts : List Str := ["thing", "names", "top", "others", "lot", "name"]
theorem sc_areparts : FnScope N_areparts ["thing", "names"] (defScope s_areparts) := ⟨rfl, rfl, rfl, by decide +kernel, rfl, by decide +kernel, by decide +kernel⟩
theorem eqLs_self (a : List (List Nat)) : eqLs a a = true := by rw [eqLs_eq]; simp
theorem ok_areparts (N : Nu nu) (F : FnP K "are_parts" s_areparts f fd) (B : Bi mg) (K1 : Kept P w K mg base "is_lot" 2 ["thing"] (spIsLot K nu) f1 fd1) : FnOk P w K mg base CX0 3 f fd ["thing", "names"] (spParts K nu) := by
  refine F.ok sc_areparts (fun vs H Q E h => sp_len h fun _ => rfl) (fun cdv A outer s H vs Q E hr h => ?_)
  obtain ⟨⟨⟨top, others⟩, names⟩, Hb, ho, e, hv, q⟩ := h
  obtain ⟨o1, o2, o3, o4, o5, o6⟩ : PtOk nu (top, others) names := ho
  have o5 : others.length ≤ 10 := o5
  refine ⟨_, PSs.nox (pss_cons (ps_if (PW.pt (pw_or (pt_not (pt_val (p_isT K B (pv 0)))) (pw_or (pt_cmpR op_ne (p_len K B (pv 0)) pe_int (nomark _)) (pw_or1 (pt_not (pt_val (p_isT K B (pe_ix (q_ixT K) (pv 0) pe_int (fun _ _ => rfl))))))))) (pss_one (ps_ret pe_bl)) pss_nil)
    (pss_cons (q_unpack K (i := 2) (j := 3) rfl sc_areparts.nd rfl rfl (pv 0))
    (pss_cons (ps_if (PW.pt (pw_or (PW.pt (pw_and (pt_cmpR (q_neD K hr.units) (pv 2) (pe_tup pa_nil) (nomark _)) (pw_and1 (pt_not (pt_val (p_call K1 hr (pa_cons (pv 2) pa_nil))))))) (pw_or (pt_not (pt_val (p_isT K B (pv 2)))) (pw_or1 (pt_not (pt_val (p_all K B rfl
      (p_lc (own := [("lot", 4)]) (j := 4) rfl sc_areparts.nd rfl (q_tup K (pv 3)) (blkOk_by (N := N_areparts) (sc := defScope s_areparts) (by decide +kernel)) (fun _ _ _ _ _ => p_call K1 hr (pa_cons (pv 4) pa_nil)))))))))) (pss_one (ps_ret pe_bl)) pss_nil)
    (pss_cons (ps_if (pt_cmpR (q_neD K hr.units) (p_sortset B rfl hr.units (pv 3)) (p_list K B (pv 3)) (nomark _)) (pss_one (ps_ret pe_bl)) pss_nil)
    (pss_one (ps_ret (pe_cmpR (q_eqD K hr.units) (p_sorted K B hr.units (p_lc2 (own := [("lot", 4), ("name", 5)]) (vs1 := [5]) (j := 4) (j1 := 5) rfl sc_areparts.nd rfl rfl (q_tup K (pe_op (q_catA K) (pe_tup (pa_cons (pv 2) pa_nil)) (pv 3))) (blkOk_by (N := N_areparts) (sc := defScope s_areparts) (by decide +kernel)) (by decide)
      (fun _ _ _ _ _ => q_tup K (pv 4)) (fun _ _ _ _ _ => pv 5))) (p_list K B (pv 1)) (nomark _)))))))), ?_⟩
  obtain ⟨v1, v2, rfl, h1, h2⟩ := dp2 hv
  have h1' : Dp K Hb v1 (.tuple [lotN nu top, .tuple (lotsD nu others)]) := h1
  refine sd_if (Hb := Hb) (evt_or (evt_not (evt_B (rcd_isi (evd_var rfl h1') isi_tT))) fun _ => evt_or (evt_test (evd_op (e_len (n := 2) (evd_var rfl h1') rfl (by decide)) evd_int rd_neI)) fun _ => evt_not (evt_B (rcd_isi (d := .tuple (lotsD nu others)) (evd_op (evd_var rfl h1') evd_int (rd_ixT rfl)) isi_tT))) e (fun z => Bool.noConfusion z) fun _ H1 e1 => ?_
  refine sd_unpack (Hb := Hb) (evd_var rfl h1') (e.trans e1) fun u3 u4 Hc H2 k1 ht hth => ?_
  refine sd_if (Hb := Hc) (evt_or (evt_and (evt_test (evd_op (evd_var (d := lotN nu top) rfl ht) (evd_tup eva_nil) (rd_neD (shaped_lot N top) (by decide) (nd_lot top) (by decide)))) (q := false) fun z => ?c1) fun _ => evt_or (evt_not (evt_B (rcd_isi (d := lotN nu top) (evd_var rfl ht) isi_tT))) fun _ => evt_not (evt_B (e_all (bs := others.map fun _ => true) (evn_is (evb_lc1 (bs := others) (enc := lotN nu) (fun _ => .bool true) (wad_tup (evd_var rfl hth)) (by omega) (fun _ => rfl) ?c2) ?c3)))) k1.sub (fun z => ?_) fun z H3 e3 => ?_
  case c1 =>
    have hg : GoodLot nu top := by
      rcases o1 with y | y
      · have y : top = [] := y
        rw [y] at z
        simp [PyData.eqv, PyData.eqvAll] at z
      · exact y
    exact evt_is (evt_not (evt_B (evd_call (eva_cons (evd_var rfl ht) eva_nil) top hg rfl))) rfl
  case c2 => exact fun l hl v Hc2 e3 hd => evd_call (eva_cons (evd_var rfl hd) eva_nil) l (o2 l hl) rfl
  case c3 => simp only [List.map_map, bools, Function.comp_def]
  · rw [all_true (fun _ _ => rfl)] at z
    simp at z
  · have hne : ∀ l ∈ others, l ≠ [] := fun l hl => (o2 l hl).ne
    have hd : (du others).mergeSort leL = others := by rw [sortL_eq]; exact o3
    have sl := shaped_lots (nu := nu) N others
    have nl : nd (.list (lotsD nu others)) = true := by rw [nd]; exact nd_lots others
    refine sd_if (Hb := Hc) (evt_test (evd_op (evd_is (evn_sortset (eva_cons (evd_var rfl hth) eva_nil) (by omega) hne N.mono).asD (b := .list (lotsD nu others)) (by rw [hd])) (e_list (evd_var rfl hth) (.inr rfl)).asD (rd_neD sl sl nl nl))) (k1.sub.trans e3) (fun z => ?_) fun z H4 e4 => ?_
    · rw [PyData.eqv, eqv_lots N, eqLs_self] at z
      simp at z
    · dsimp only [tNext]
      have e2 : ((top :: others).flatMap fun d => d.map fun c => nmD nu c) = (top ++ others.flatten).map (nmD nu) := by
        rw [List.flatMap_cons, List.map_append, List.map_flatten, List.flatMap_def]
      have hlen : (top ++ others.flatten).length ≤ 100 := by
        have := (sortN_perm (top ++ others.flatten)).length_eq
        have o4 : sortN (top ++ others.flatten) = names := o4
        rw [o4] at this
        have : names.length ≤ 100 := o6
        omega
      have hnm : PyData.list (names.map (nmD nu)) = .list ((names.map nu).map .str) := by rw [List.map_map]; rfl
      have sn : SeqAt.shaped (.list ((names.map nu).map .str)) = true := by
        have z := shaped_lot N names
        unfold SeqAt.shaped at z ⊢
        exact z
      have nn : nd (.list ((names.map nu).map .str)) = true := by rw [nd]; exact nd_strs _
      refine sd_ret (Hb := Hc) (d := .bool true) ?_ ((k1.sub.trans e3).trans e4) fun v Hb' H' k hv => q v Hb' H' ((kn_up e1 k1).trans (kn_up (e3.trans e4) k)) hv
      refine evd_is (evd_op (a := .list ((names.map nu).map .str)) (b := .list ((names.map nu).map .str)) (evd_is (e_sort (evb_lc2 (bs := top :: others) (enc := lotN nu) (en2 := nmD nu) (fun l => l) (fun _ c => nmD nu c) (wad_tup (evd_is (evd_op (evd_tup (eva_cons (evd_var rfl ht) eva_nil) (by exact (by decide : 1 ≤ 100000))) (evd_var (d := .tuple (lotsD nu others)) rfl hth) (rd_catA (by rw [List.length_map, List.length_singleton]; omega))) rfl)) ?d1 (fun _ => rfl) (fun _ _ => rfl) ?d2 fun d hd c hc v u Hc2 e5 h4 h5 => evd_var rfl h5).asD ?d3 ?d4 ?d5).asD ?d6)
        (evd_is (e_list (ds := (names.map nu).map .str) (evd_var rfl (dp_mono k1.bas _ _ h2)) (.inr rfl)).asD rfl) (rd_eqD sn sn nn nn)) ?d7
      case d1 => rw [e2, List.length_map]; omega
      case d2 => exact fun l hl v Hc2 e5 hd => wad_tup (evd_is (evd_var rfl hd) (lotN_eq l).symm)
      case d3 => rw [e2]; exact nm_alike _
      case d4 => rw [e2]; exact nm_sortable _
      case d5 => rw [e2]; exact nm_flat _
      case d6 =>
        rw [e2, sort_nm N, ← hnm]
        exact congrArg (fun l : List Nat => PyData.list (l.map (nmD nu))) o4
      case d7 =>
        refine congrArg PyData.bool ?_
        rw [PyData.eqv, eqv_strs N]
        exact eqB_self names
/-! lets_forest -/
theorem e_order {σ : L2.St} {Hb : Hp} {tr : TA} {a b : T} {others : List (List Nat)} (h : EvA K tr σ Hb [treeD nu a, treeD nu b, .tuple (lotsD nu others)]) (oa : HdOk a others) (ob : HdOk b others) :
    EvD K (tOp (fun x y H Q => y = .non ∧ Q (.bl (!decide (x = .non))) H) (tCall (spOrder K nu) [] E0 tr) (tC .non)) σ Hb (.bool (ordered a b others)) := fun H e Q q =>
  h H e _ fun vs H1 H2 k hv => ⟨((a, b), others), H1, oa, ob, k.sub, by rw [List.append_nil]; exact hv, fun v H' eH hd => ⟨rfl, by
    rw [hd, Bool.not_not]
    exact q _ H1 H' ⟨k.cur.trans eH, k.bas, k.sub.trans eH, k.nw⟩ (.bl _)⟩⟩
theorem e_noOrder {σ : L2.St} {Hb : Hp} {tr : TA} {a b : T} {others : List (List Nat)} (h : EvA K tr σ Hb [treeD nu a, treeD nu b, .tuple (lotsD nu others)]) (oa : HdOk a others) (ob : HdOk b others) :
    EvD K (tOp (fun x y H Q => y = .non ∧ Q (.bl (decide (x = .non))) H) (tCall (spOrder K nu) [] E0 tr) (tC .non)) σ Hb (.bool (!ordered a b others)) := fun H e Q q =>
  h H e _ fun vs H1 H2 k hv => ⟨((a, b), others), H1, oa, ob, k.sub, by rw [List.append_nil]; exact hv, fun v H' eH hd => ⟨rfl, by
    rw [hd]
    exact q _ H1 H' ⟨k.cur.trans eH, k.bas, k.sub.trans eH, k.nw⟩ (.bl _)⟩⟩
abbrev LfI := ((T × T) × Fo) × Bool
structure LfOk (nu : Nat → Str) (p : LfI) : Prop where
  pt : PtOk nu p.1.2 (namesT p.1.1.1)
  sa : ShOk p.1.1.1 p.1.2.1 p.1.2.2
  sb : ShOk p.1.1.2 p.1.2.1 p.1.2.2
  nd : p.1.2.2.Nodup
def letsR (p : LfI) : Bool := share p.1.1.1 p.1.1.2 p.1.2.1 p.1.2.2 && (!p.2 || ordered p.1.1.1 p.1.1.2 p.1.2.2)
abbrev spLets (K : PySem.W.Frag) (nu : Nat → Str) : Sp := spD K (LfOk nu) (fun p => [treeD nu p.1.1.1, treeD nu p.1.1.2, forD nu p.1.2, .bool p.2]) fun p => .bool (letsR p)
abbrev N_letsforest : List Str := ["one", "other", "thing", "ringless", "top", "others"]
theorem sc_letsforest : FnScope N_letsforest ["one", "other", "thing", "ringless"] (defScope s_letsforest) := ⟨rfl, rfl, rfl, by decide +kernel, rfl, by decide +kernel, by decide +kernel⟩
theorem ShOk.hd {t : T} {top : List Nat} {others : List (List Nat)} (o : ShOk t top others) (n : others.Nodup) : HdOk t others := ⟨o.dp, o.few, o.oth, n, o.lots⟩
theorem ok_letsforest {k k2 k3 : Nat} {kws : List (Str × V)} (N : Nu nu) (h3 : 3 ≤ k) (hk2 : k2 ≤ k) (hk3 : k3 ≤ k) (F : FnK K "lets_forest" s_letsforest kws f fd) (B : Bi mg) (K1 : Kept P w K mg base "are_parts" 3 ["thing", "names"] (spParts K nu) f1 fd1) (K2 : Kept P w K mg base "names_in" k2 ["tree"] (spNamesIn K nu 7) f2 fd2)
    (K3 : Kept P w K mg base "share" k ["one", "other", "top", "others"] (spShare K nu) f3 fd3) (K4 : Kept P w K mg base "order_of" k3 ["one", "other", "others"] (spOrder K nu) f4 fd4) : FnOk P w K mg base CX0 (k + 1) f fd ["one", "other", "thing", "ringless"] (spLets K nu) := by
  refine F.ok sc_letsforest (fun vs H Q E h => sp_len h fun _ => rfl) (fun cdv A outer s H vs Q E hr h => ?_)
  obtain ⟨⟨⟨⟨a, b⟩, ⟨top, others⟩⟩, ringless⟩, Hb, ho, e, hv, q⟩ := h
  have op : PtOk nu (top, others) (namesT a) := ho.pt
  have oa : ShOk a top others := ho.sa
  have ob : ShOk b top others := ho.sb
  have on : others.Nodup := ho.nd
  refine ⟨_, PSs.nox (pss_cons (ps_if (pt_not (pt_val (p_call K1 hr (pa_cons (pv 2) (pa_cons (p_call K2 hr (pa_cons (pv 0) pa_nil) hk2) pa_nil)) h3))) (pss_one (ps_ret pe_bl)) pss_nil)
    (pss_cons (q_unpack K (i := 4) (j := 5) rfl sc_letsforest.nd rfl rfl (pv 2))
    (pss_cons (ps_if (pt_not (pt_val (p_call K3 hr (pa_cons (pv 0) (pa_cons (pv 1) (pa_cons (pv 4) (pa_cons (pv 5) pa_nil))))))) (pss_one (ps_ret pe_bl)) pss_nil)
    (pss_one (ps_ret (pe_or (pe_not (pv 3)) (pe_one (pe_cmpR op_notN (p_call K4 hr (pa_cons (pv 0) (pa_cons (pv 1) (pa_cons (pv 5) pa_nil))) hk3) pe_non (nomark _))))))))), ?_⟩
  obtain ⟨v1, v2, v3, v4, rfl, h1, h2, h3, h4⟩ := dp4 hv
  have h3' : Dp K Hb v3 (.tuple [lotN nu top, .tuple (lotsD nu others)]) := h3
  have hla : depthT a < 7 ∧ (leaves a).length ≤ 100 := ⟨oa.dp, by have := oa.few; omega⟩
  refine sd_if (Hb := Hb) (evt_not (evt_B (evd_call (eva_cons (evd_var rfl h3) (eva_cons (evd_call (eva_cons (evd_var rfl h1) eva_nil) a hla rfl) eva_nil)) ((top, others), namesT a) op rfl))) e (fun z => Bool.noConfusion z) fun _ H1 e1 => ?_
  refine sd_unpack (Hb := Hb) (evd_var rfl h3') (e.trans e1) fun u5 u6 Hc H2 k1 ht hth => ?_
  have key : EvD K (tCall (spShare K nu) [] E0 (tCons (tVar 0) (tCons (tVar 1) (tCons (tVar 4) (tCons (tVar 5) tNil))))) [some v1, some v2, some v3, some v4, some u5, some u6] Hc (.bool (share a b top others)) :=
    evd_call (eva_cons (evd_var rfl (dp_mono k1.bas _ _ h1)) (eva_cons (evd_var rfl (dp_mono k1.bas _ _ h2)) (eva_cons (evd_var rfl ht) (eva_cons (evd_var rfl hth) eva_nil)))) (((a, b), top), others) (And.intro oa ob) rfl
  refine sd_if (Hb := Hc) (evt_not (evt_B key)) k1.sub (fun z H3 e3 => ?_) fun z H3 e3 => ?_
  · have hs : share a b top others = false := by simpa using z
    refine sd_ret (K := K) (Hb := Hc) evd_bl (k1.sub.trans e3) fun v Hb' H' k hv => q v Hb' H' ((kn_up e1 k1).trans (kn_up e3 k)) ?_
    show Dp K Hb' v (.bool (share a b top others && _))
    rw [hs]; exact hv
  · have hs : share a b top others = true := by simpa using z
    dsimp only [tNext]
    refine sd_ret (K := K) (Hb := Hc) (d := .bool (!ringless || ordered a b others)) ?_ (k1.sub.trans e3) fun v Hb' H' k hv => q v Hb' H' ((kn_up e1 k1).trans (kn_up e3 k)) ?_
    · exact evd_orV (evd_notV (evd_var rfl (dp_mono k1.bas _ _ h4))) fun _ => e_order (eva_cons (evd_var rfl (dp_mono k1.bas _ _ h1)) (eva_cons (evd_var rfl (dp_mono k1.bas _ _ h2)) (eva_cons (evd_var rfl hth) eva_nil))) (oa.hd on) (ob.hd on)
    · show Dp K Hb' v (.bool (share a b top others && _))
      rw [hs]; exact hv
end
end Jt

set_option Elab.async false
set_option linter.all false
set_option maxRecDepth 100000
set_option maxHeartbeats 4000000
/-! sorted of a tuple; slices of lists; enumerate as data. -/
namespace Jt
open PySem PySem.Spec PyProof.Rows L2 PySem.W
section
variable {prog : Program} {w : World} {A : Around} {E : Value → Shared → Prop} {s : Shared}
theorem collect_tup {l : Addr} {vs : List Value} {Q : List Value → Shared → Prop} (hl : s.heap.IsTuple l vs.toArray)
    (h : Q vs { s with heap := (s.heap.push (seqObj "list" #[] 0)).update s.heap.objs.size (Obj.mapSeq (· ++ vs.toArray)) }) (hsz : vs.length ≤ sizeLine) :
    wpAny (model prog w) A (collect (.ref l)) Q E s := by
  obtain ⟨o, ho, hc, n, hd⟩ := id hl
  unfold collect
  refine wpAny_bind (wpAny_runValue (codeAny_builtin entry_proto_collect' ?_))
  show wpAny _ _ (do again (.builtin "list.__iadd__" ⟨[← newList [], .ref l], []⟩)) _ _ s
  refine wpAny_bind (wpAny_newList (wpAny_pure ⟨Code.quiet_builtin _ (by decide +kernel), codeAny_builtin entry_list_iadd' ?_⟩))
  show wpAny _ _ (Builtin.List.listExtendWith (.ref s.heap.objs.size) (.ref l) (.ref s.heap.objs.size)) _ _ { s with heap := s.heap.push (seqObj "list" #[] 0) }
  unfold Builtin.List.listExtendWith
  have ho' : (s.heap.push (seqObj "list" #[] 0)).get? l = some o := Heap.get?_push_of_some _ ho
  refine wpAny_bind (wpAny_typeOf (T := "tuple") ⟨o, ho', hc⟩ ?_)
  have ht : (Value.type "tuple" == Value.type "tuple") = true := by rfl
  rw [if_pos (by rw [ht]; simp)]
  refine wpAny_bind (listItems_at ho' hd ?_)
  refine wpAny_bind (listItems_at (xs := #[]) (n := 0) (Heap.get?_push_size _ rfl) rfl ?_)
  rw [if_neg (by simp)]
  refine wpAny_bind (listUpdate_at (xs := #[]) (n := 0) (Heap.get?_push_size _ rfl) rfl ?_ (Nat.zero_le _) (by show (#[] ++ vs.toArray).size ≤ sizeLine + 1; simp only [Array.size_append, List.size_toArray, List.length_nil]; omega))
  refine wpAny_pure ?_
  show wpAny (model prog w) A (do
      let o ← load s.heap.objs.size
      match o.data with
      | .seq xs _ => pure xs.toList
      | _ => unsupported "internal:collect") Q E { s with heap := (s.heap.push (seqObj "list" #[] 0)).update s.heap.objs.size (Obj.mapSeq (· ++ vs.toArray)) }
  refine wpAny_bind (wpAny_load (get?_update_seq (Heap.get?_push_size _ rfl) _) ?_)
  show wpAny _ _ (pure ((#[] : Array Value) ++ vs.toArray).toList) Q E _
  rw [show ((#[] : Array Value) ++ vs.toArray).toList = vs by simp]
  exact wpAny_pure h
end
section
variable {X : Cx} {pins : List (Addr × Obj)} {σ : L2.St} {H : Hp} {s : Shared}
/-- sorted(t), t a tuple of lots -/
def rSortT (K : PySem.W.Frag) : List V → Hp → VK → Prop := fun vs H Q => ∃ (a : Addr) (ks : List (Addr × List Str)), vs = [.ref a] ∧ H a = some (.tup (ks.map fun p => V.ref p.1)) ∧ TupsS H ks ∧ (∀ p ∈ ks, p.2 ≠ []) ∧ ks.length ≤ 1000 ∧
  ∀ ys p, H p = none → ys = ((ks.mergeSort (dataLe false fun q => lotD q.2)).map fun q => V.ref q.1) → Q (.ref p) (upd H p (.lst ys))
theorem cr_sortT (hu : X.A.units + 64 < cLine) : CallR X (.builtin "sorted") (rSortT X.K) := by
  intro pins s σ H vs us Q I r h
  obtain ⟨a, ks, rfl, ha, hk, hne, hz, q⟩ := h
  have hT : ∀ p ∈ ks, IsS X.prog X.w s.heap p.2 p.1 := fun p hp => Inv.isS I (hk p hp)
  rw [Vals.ref1 r]
  obtain ⟨its, rv, hl, hzl⟩ := I.tuple (SqT.of ha)
  have hits := valsS rv
  subst hits
  have hlen : (ks.map fun q => Value.ref q.1).length ≤ sizeLine := by rw [List.length_map, sizeLine_eq]; omega
  refine Calls.call_function_entry kind_sorted plain_sorted entry_sorted (args_sorted1 _) ?_
  unfold Builtin.«sorted»
  refine wpAny_bind (m := checkCount "sorted" 1 1 _) (wpAny_pure ?_)
  refine wpAny_bind (collect_tup (A := X.A.in1) hl ?_ hlen)
  have k1 : ∀ b o, s.heap.get? b = some o → ((s.heap.push (seqObj "list" #[] 0)).update s.heap.objs.size (Obj.mapSeq (· ++ (ks.map fun q => Value.ref q.1).toArray))).get? b = some o := fun b o e => by
    rw [Heap.get?_update_ne _ _ _ _ (Nat.ne_of_lt (Heap.lt_size e))]
    exact Heap.get?_push_of_some _ e
  have hz1 : s.heap.objs.size ≤ ((s.heap.push (seqObj "list" #[] 0)).update s.heap.objs.size (Obj.mapSeq (· ++ (ks.map fun q => Value.ref q.1).toArray))).objs.size := by
    rw [Heap.size_update, size_push']
    exact Nat.le_succ _
  generalize (s.heap.push (seqObj "list" #[] 0)).update s.heap.objs.size (Obj.mapSeq (· ++ (ks.map fun q => Value.ref q.1).toArray)) = h1 at k1 hz1
  refine wpAny_bind (wpAny_newList ?_ hlen)
  have hoL : (h1.push (seqObj "list" (ks.map fun q => Value.ref q.1).toArray 0)).get? h1.objs.size = some (seqObj "list" (ks.map fun q => Value.ref q.1).toArray 0) := Heap.get?_push_size _ rfl
  have er : EachIs (fun v (q : Addr × List Str) => ∃ as, Reads (h1.push (seqObj "list" (ks.map fun q => Value.ref q.1).toArray 0)) v (lotD q.2) as ∧ h1.objs.size ∉ as) (ks.map fun q => Value.ref q.1) ks := by
    have go : ∀ M : List (Addr × List Str), (∀ q ∈ M, q ∈ ks) → EachIs (fun v (q : Addr × List Str) => ∃ as, Reads (h1.push (seqObj "list" (ks.map fun q => Value.ref q.1).toArray 0)) v (lotD q.2) as ∧ h1.objs.size ∉ as) (M.map fun q => Value.ref q.1) M := by
      intro M
      induction M with
      | nil => intro _; exact .nil
      | cons q M ih =>
        intro hM
        refine .cons ⟨[], ?_, by simp⟩ (ih fun q hq => hM q (List.mem_cons_of_mem _ hq))
        obtain ⟨o, items, n, ho, hc, hd, hi⟩ := hT q (hM q List.mem_cons_self)
        exact .tuple (Heap.get?_push_of_some _ (k1 _ _ ho)) hc hd (reads_strs (X := X) hi)
    exact go ks fun q hq => hq
  refine wpAny_bind (wpAny_holding (list_sort_data (s := { s with heap := h1.push (seqObj "list" (ks.map fun q => Value.ref q.1).toArray 0) }) (enc := fun q : Addr × List Str => lotD q.2) (R := fun v q => v = Value.ref q.1) hoL (eachS_of ks) er (allAlike_lots _ ks)
    (sortable_lots _ ks fun b hb => hne b hb) (by rw [sizeLine_eq]; omega) (fun b hb => by have := depth_lot b.2; show X.A.units + 1 + 1 + _ < _; omega) fun out hl he => ?_))
  obtain ⟨c, hcc⟩ := sortedHeap_at (vs := ks.map fun q => Value.ref q.1) (out := out.toArray) hoL
  have hout := of_eachS he
  have kk : ∀ b u, s.heap.get? b = some u → (sortedHeap (h1.push (seqObj "list" (ks.map fun q => Value.ref q.1).toArray 0)) h1.objs.size (ks.map fun q => Value.ref q.1) out.toArray).get? b = some u := fun b u e => by
    have q := k1 b u e
    have hlt := Heap.lt_size q
    rw [sortedHeap_old (Nat.ne_of_lt hlt) (by rw [size_push']; exact Nat.lt_succ_of_lt hlt)]
    exact Heap.get?_push_of_some _ q
  have hn : H h1.objs.size = none := I.hok.fresh hz1
  have hv : Vals ((ks.mergeSort (dataLe false fun q => lotD q.2)).map fun q => V.ref q.1) out := by rw [hout]; exact valsS_of _
  have hlen2 : ((ks.mergeSort (dataLe false fun q => lotD q.2)).map fun q => V.ref q.1).length ≤ sizeLine := by rw [List.length_map, List.length_mergeSort, sizeLine_eq]; omega
  have J : Inv X pins σ (upd H h1.objs.size (.lst ((ks.mergeSort (dataLe false fun q => lotD q.2)).map fun q => V.ref q.1))) { s with heap := sortedHeap (h1.push (seqObj "list" (ks.map fun q => Value.ref q.1).toArray 0)) h1.objs.size (ks.map fun q => Value.ref q.1) out.toArray } :=
    I.laid (t' := s.toks) kk hz1 ⟨hlen2, out, c, hv, hcc⟩
  exact wpAny_pure ⟨_, rfl, .ref h1.objs.size, _, J, rfl, q _ _ hn rfl⟩
theorem p_sortT (B : Bi X.mg) (hu : X.A.units + 64 < cLine) {e : Expr} {te : TE} {p pos : Pos} (K : PySem.W.Frag) (he : PE X e te) (hK : X.K = K := by rfl) (hg : Gl X "sorted" := by rfl) (h1 : starEach [e] X.env = (false, eval e X.env) :: starEach [] X.env := by rfl) : PE X (.Call (.Name "sorted" p) [e] [] pos) (tCB (rSortT K) (tCons te tNil)) := by
  subst hK
  exact pe_callB (cr_sortT hu) hg B.sorted boot_sorted (pa_cons he pa_nil h1) (by decide) (by decide) h1 rfl
end
section
variable {K : PySem.W.Frag} {σ : L2.St} {Hb : Hp} {te : TE} {ds : List PyData} {nu : Nat → Str}
theorem e_sortT {ls : List (List Nat)} (N : Nu nu) (h : EvD K te σ Hb (.tuple (lotsD nu ls))) (hne : ∀ l ∈ ls, l ≠ []) (hz : ls.length ≤ 1000) : EvN K (tCB (rSortT K) (tCons te tNil)) σ Hb (lotsD nu (sortL ls)) := fun H e Q q =>
  h H e _ fun v H1 H2 k hv => by
    cases hv with
    | @tup a xs _ hs ha =>
      obtain ⟨ks, rfl, e2, e3⟩ := dpAll_lots ha
      have hkl : ks.length = ls.length := by
        have z := congrArg List.length e2
        rwa [List.length_map, List.length_map] at z
      refine ⟨a, ks, rfl, k.sub _ _ hs, fun p hp => k.sub _ _ (e3 p hp), fun p hp => ?_, by omega, fun ys p hp ey => ?_⟩
      · have z : p.2 ∈ ks.map (·.2) := List.mem_map.mpr ⟨p, hp, rfl⟩
        rw [e2] at z
        obtain ⟨l, hl, e4⟩ := List.mem_map.mp z
        rw [← e4]
        intro e5
        exact hne l hl (by simpa using e5)
      · subst ey
        have nH : H1 p = none := none_back k.sub hp
        refine q p _ H1 _ (k.trans (Kn.mut k.sub hp)) (none_back k.cur hp) nH upd_same ?_
        have d1 := dpAll_refs (K := K) (H := H1) (ks.mergeSort (dataLe false fun q => lotD q.2)) fun q hq => e3 q (List.mem_mergeSort.mp hq)
        have a1 : (ks.mergeSort (dataLe false fun q => lotD q.2)).map (fun p => lotD p.2) = (ks.map fun p => lotD p.2).mergeSort (dataLe false id) := (merge_enc (fun p : Addr × List Str => lotD p.2) _ ks fun a _ b _ => rfl).symm
        have a2 : (ks.map fun p => lotD p.2) = lotsD nu ls := by
          have z : (ks.map (·.2)).map lotD = (ls.map fun l => l.map nu).map lotD := by rw [e2]
          rw [List.map_map, List.map_map] at z
          exact z
        rw [a1, a2, sort_ls N] at d1
        exact d1
/-- xs[lo:hi] of a list -/
theorem e_slL {tl th : TO} {lo hi : Option Int} (h : EvD K te σ Hb (.list ds)) (hl : EvO tl σ Hb lo) (hh : EvO th σ Hb hi) : EvN K (tSl (rSlL K) te tl th) σ Hb (cutD ds lo hi) := fun H e Q q =>
  h H e _ fun v H1 H2 k hv => hl H2 (k.bas.trans k.sub) _ fun H3 e3 => hh H3 ((k.bas.trans k.sub).trans e3) _ fun H4 e4 => by
    cases hv with
    | @lst p xs _ hs ha =>
      have sub := k.sub.trans (e3.trans e4)
      have k4 : Kn Hb H H1 H4 := ⟨k.cur.trans (e3.trans e4), k.bas, sub, k.nw⟩
      have ln := dpAll_len ha
      refine ⟨p, xs, rfl, Evl.ex_l sub hs, fun p2 hp2 => q p2 _ H1 _ (k4.trans (Kn.mut sub hp2)) (none_back k4.cur hp2) (none_back sub hp2) upd_same ?_⟩
      unfold cutV cutD
      rw [ln]
      exact dpAll_take _ (dpAll_drop _ ha)
theorem cut_take (ds : List PyData) {k : Nat} (h : k ≤ ds.length) : cutD ds none (some (k : Int)) = ds.take k := by
  unfold cutD
  rw [HT.sIx_nat, HT.sIx_none, Nat.min_eq_left h]
  simp
theorem cut_drop (ds : List PyData) {k : Nat} (h : k ≤ ds.length) : cutD ds (some (k : Int)) none = ds.drop k := by
  unfold cutD
  rw [HT.sIx_nat, HT.sIx_none, Nat.min_eq_left h]
  rw [List.take_of_length_le]
  rw [List.length_drop]
  exact Nat.le_refl _
/-- for k, x in enumerate(t) -/
theorem sd_forE {H : Hp} {tu : TS} {D : Ends} {i0 j0 : Nat} (h : EvD K te σ Hb (.tuple ds)) (e : Ex Hb H) (W : Nat → L2.St → Hp → Hp → Prop) (h0 : ∀ Hb' H', Kn Hb H Hb' H' → W 0 σ Hb' H') (hx : ∀ i σ' Hc H', W i σ' Hc H' → Ex Hc H')
    (hw : ∀ i σ' Hc H' T o, W i σ' Hc H' → H' T = none → W i σ' Hc (upd H' T o))
    (hs : ∀ (i : Nat) d v σ' Hc H', ds[i]? = some d → W i σ' Hc H' → Dp K Hc v d → tu { D with nx := fun σ3 H3 => ∃ Hd, Ex Hc Hd ∧ W (i + 1) σ3 Hd H3, ct := fun σ3 H3 => ∃ Hd, Ex Hc Hd ∧ W (i + 1) σ3 Hd H3, bk := D.nx } ((σ'.set i0 (some (.int i))).set j0 (some v)) H')
    (hd : ∀ σ' Hc H', W ds.length σ' Hc H' → D.nx σ' H') : tFor (iEnumT K (tCons te tNil)) (gTup K 2 (gCons (gName i0) (gCons (gName j0) gNil))) tu D σ H := h H e _ fun v H1 H2 k0 hv => by
  cases hv with
  | @tup a xs _ ht ha =>
    have hl := dpAll_len ha
    refine ⟨a, xs, rfl, SqT.of (k0.sub _ _ ht), fun i m σ' H' => m = ds.length - i ∧ i ≤ ds.length ∧ ∃ Hc, Ex H1 Hc ∧ W i σ' Hc H', ⟨ds.length, by simp, Nat.zero_le _, H1, Evl.Ex.refl _, h0 H1 H2 k0⟩, ?_⟩
    rintro i m σ' H' ⟨rfl, hi, Hc, e1, w⟩
    have eH := e1.trans (hx _ _ _ _ w)
    have st : SqT K H' a xs := SqT.of (eH _ _ ht)
    by_cases hlt : i < ds.length
    · have hlx : i < xs.length := by omega
      refine .inr ⟨⟨xs, xs[i], st, List.getElem?_eq_getElem hlx⟩, fun σ3 H3 => ∃ Hd, Ex Hc Hd ∧ W (i + 1) σ3 Hd H3, fun σ3 H3 ⟨Hd, e3, p⟩ => ⟨ds.length - (i + 1), by omega, rfl, hlt, Hd, e1.trans e3, p⟩, fun x H3 y => ?_⟩
      obtain ⟨T, z, rfl, nT, rfl, hz⟩ := y
      have hxz := hz xs st
      obtain ⟨d, hdd, hdx⟩ := dpAll_get ha hxz
      exact ⟨T, [.int (i : Nat), z], rfl, SqT.of upd_same, rfl, .int (i : Nat), [z], rfl, z, [], rfl, rfl, hs i d z σ' Hc _ hdd (hw _ _ _ _ _ _ w nT) (dp_mono e1 d z hdx)⟩
    · have e2 : i = ds.length := by omega
      subst e2
      exact .inl ⟨⟨xs, st, by omega⟩, hd σ' Hc H' w⟩
end
end Jt

set_option Elab.async false
set_option linter.all false
set_option maxRecDepth 100000
set_option maxHeartbeats 1000000
/-! Walks: longer_ones. -/
namespace Jt
open PySem PySem.Spec PyProof.Rows L2 PySem.W
theorem grow_len (i : Nat) : ∀ o : List (List Nat), (grow o i).length = o.length
  | [] => rfl
  | l :: r => by
    show (((l ++ [i]) :: r) :: (grow r i).map (l :: ·)).length = _
    rw [List.length_cons, List.length_map, grow_len i r]
    rfl
theorem grow_get (i : Nat) : ∀ (o : List (List Nat)) (k : Nat) (l : List Nat), o[k]? = some l → (grow o i)[k]? = some (o.take k ++ (l ++ [i]) :: o.drop (k + 1))
  | [], k, l, h => by simp at h
  | x :: r, 0, l, h => by
    have e : x = l := by simpa using h
    subst e
    rfl
  | x :: r, k + 1, l, h => by
    have h2 : r[k]? = some l := by simpa using h
    show (((x ++ [i]) :: r) :: (grow r i).map (x :: ·))[k + 1]? = _
    rw [List.getElem?_cons_succ, List.getElem?_map, grow_get i r k l h2]
    rfl
section
variable {P : Program} {w : World} {K : PySem.W.Frag} {mg : Str → Option Value} {base : Heap} {f f1 f2 f3 f4 : Addr} {fd fd1 fd2 fd3 fd4 : FuncData} {nu : Nat → Str}
theorem kn_own {Hb H Hc H' : Hp} {p : Addr} {o : HO} (k : Kn Hb H Hc H') (h1 : H p = none) (h2 : Hc p = none) : Kn Hb H Hc (upd H' p o) := ⟨Evl.Ex.mut k.cur h1, k.bas, ex_hid k.sub h2, k.nw⟩
structure LgI where
  p : Fo
  i : Nat
  most : Nat
structure LgOk (x : LgI) : Prop where
  tp : x.p.1.length ≤ 100
  oth : x.p.2.length ≤ 100
  sm : ∀ l ∈ x.p.2, l.length ≤ 100
abbrev spLonger (K : PySem.W.Frag) (nu : Nat → Str) : Sp := spD K LgOk (fun x => [lotN nu x.p.1, .tuple (lotsD nu x.p.2), nmD nu x.i, .int (x.most : Nat)]) fun x => .list ((longer x.p.1 x.p.2 x.i x.most).map (forD nu))
abbrev N_longerones : List Str := ["top", "others", "name", "most", "found", "k", "lot"]
theorem sc_longerones : FnScope N_longerones ["top", "others", "name", "most"] (defScope s_longerones) := ⟨rfl, rfl, rfl, by decide +kernel, rfl, by decide +kernel, by decide +kernel⟩
theorem lot_snoc (l : List Nat) (i : Nat) : PyData.tuple ((l.map nu).map .str ++ [nmD nu i]) = lotN nu (l ++ [i]) := by
  show _ = PyData.tuple (((l ++ [i]).map nu).map .str)
  simp
/-- what is found behind k turns -/
def soFar (x : LgI) (k : Nat) : List Fo := (x.p.1 ++ [x.i], x.p.2) :: ((grow x.p.2 x.i).take k).map fun o => (x.p.1, o)
theorem ok_longerones (F : FnP K "longer_ones" s_longerones f fd) (B : Bi mg) : FnOk P w K mg base CX0 1 f fd ["top", "others", "name", "most"] (spLonger K nu) := by
  refine F.ok sc_longerones (fun vs H Q E h => sp_len h fun _ => rfl) (fun cdv A outer s H vs Q E hr h => ?_)
  obtain ⟨⟨⟨top, others⟩, i, most⟩, Hb, ⟨o1, o2, o3⟩, e, hv, q⟩ := h
  have o1 : top.length ≤ 100 := o1
  have o2 : others.length ≤ 100 := o2
  have o3 : ∀ l ∈ others, l.length ≤ 100 := o3
  refine ⟨_, PSs.nox (pss_cons (ps_set (i := 4) sc_longerones.nd rfl (Or.inl rfl) (pe_lst (pa_cons (pe_tup (pa_cons (pe_op (q_catA K) (pv 0) (pe_tup (pa_cons (pv 2) pa_nil))) (pa_cons (pv 1) pa_nil))) pa_nil)))
    (pss_cons (ps_for PassesOwn.never rfl (pi_enumT rfl B.enumerate (pa_cons (pv 1) pa_nil)) (pg_tup rfl (pgs_cons (pg_name (i := 5) sc_longerones.nd rfl (Or.inl rfl)) (pgs_cons (pg_name (i := 6) sc_longerones.nd rfl (Or.inl rfl)) pgs_nil)))
      (pss_one (ps_expr (pe_bm PySem.F.plainAttrs_list PySem.F.slot_list_append PySem.F.type_list_append mt_append (pv 4) (pa_cons (pe_tup (pa_cons (pv 0) (pa_cons (pe_op (q_catA K) (pe_op (q_catA K) (pe_slice (q_slT K) (pv 1) po_none (po_some (pv 5))) (pe_tup (pa_cons (pe_op (q_catA K) (pv 6) (pe_tup (pa_cons (pv 2) pa_nil))) pa_nil)))
        (pe_slice (q_slT K) (pv 1) (po_some (pe_op op_add (pv 5) pe_int)) po_none)) pa_nil))) pa_nil)))))
    (pss_cons (ps_if (pt_cmpR op_lt (p_len K B (pv 1)) (pv 3) (nomark _)) (pss_one (ps_expr (pe_bm PySem.F.plainAttrs_list PySem.F.slot_list_append PySem.F.type_list_append mt_append (pv 4) (pa_cons (pe_tup (pa_cons (pv 0) (pa_cons (pe_op (q_catA K) (pv 1) (pe_tup (pa_cons (pe_tup (pa_cons (pv 2) pa_nil)) pa_nil))) pa_nil))) pa_nil)))) pss_nil)
    (pss_one (ps_ret (pv 4)))))), ?_⟩
  obtain ⟨v1, v2, v3, v4, rfl, h1, h2, h3, h4⟩ := dp4 hv
  have h1 : Dp K Hb v1 (lotN nu top) := h1
  have h2 : Dp K Hb v2 (.tuple (lotsD nu others)) := h2
  have h3 : Dp K Hb v3 (nmD nu i) := h3
  have h4 : Dp K Hb v4 (.int (most : Nat)) := h4
  have z100 : (1 : Nat) ≤ 100000 := by decide
  have z200 : (2 : Nat) ≤ 100000 := by decide
  have lt1 : ∀ l : List Nat, l.length ≤ 100 → ((l.map nu).map PyData.str).length + [nmD nu i].length ≤ 100000 := fun l hl => by
    rw [List.length_map, List.length_map, List.length_singleton]; omega
  refine sd_setN (K := K) (Hb := Hb) (ds := [forD nu (top ++ [i], others)]) (evn_is (evn_lst (eva_cons (evd_tup (eva_cons (evd_op (evd_var (d := lotN nu top) rfl h1) (evd_tup (eva_cons (evd_var rfl h3) eva_nil) z100) (rd_catA (lt1 top o1))) (eva_cons (evd_var rfl h2) eva_nil)) z200) eva_nil) z100) (by rw [lot_snoc])) e fun pf xf Hc H1 k1 n1 n2 c1 a1 => ?_
  refine sd_forE (Hb := Hc) (evd_var rfl (dp_mono k1.bas _ _ h2)) k1.sub (fun k σ' Hd H' => ∃ c5 c6, σ' = [some v1, some v2, some v3, some v4, some (.ref pf), c5, c6] ∧ Kn Hb H Hd H' ∧ Own K Hd H' pf ((soFar ⟨(top, others), i, most⟩ k).map (forD nu)))
    (fun Hb' H' k => ⟨none, none, rfl, k1.trans k, Own.kn ⟨n2, xf, c1, by simpa [soFar] using a1⟩ k⟩) (fun k σ' Hd H' ⟨_, _, _, kk, _⟩ => kk.sub) (fun k σ' Hd H' T o ⟨c5, c6, e1, kk, ow⟩ hT => ⟨c5, c6, e1, ?_, ow.ne fun z => ?_⟩) ?_ ?_
  · exact kn_own kk (none_back kk.cur hT) (none_back kk.sub hT)
  · obtain ⟨xs, hx, _⟩ := ow.at_
    rw [z, hT] at hx
    cases hx
  · rintro k d v σ' Hd H' hdk ⟨c5, c6, rfl, kk, ow⟩ hdv
    rw [List.getElem?_map] at hdk
    cases hl : others[k]? with
    | none => rw [hl] at hdk; cases hdk
    | some l =>
    rw [hl] at hdk
    have ed : lotN nu l = d := Option.some.inj hdk
    subst ed
    have hkl : k < others.length := (List.getElem?_eq_some_iff.mp hl).1
    have hll := o3 l (List.mem_of_getElem? hl)
    obtain ⟨xs, hx, hxa⟩ := ow.at_
    have hxl : xs.length ≤ 1000 := by
      rw [dpAll_len hxa, List.length_map]
      show ((top ++ [i], others) :: ((grow others i).take k).map fun o => (top, o)).length ≤ 1000
      rw [List.length_cons, List.length_map]
      have := List.length_take_le k (grow others i)
      omega
    have lD : (lotsD nu others).length = others.length := List.length_map _
    refine sd_append (K := K) (Hb := Hd) (d := forD nu (top, others.take k ++ (l ++ [i]) :: others.drop (k + 1))) (p := pf) rfl hx (by omega) (evd_is (evd_tup (eva_cons (evd_var rfl (dp_mono kk.bas _ _ h1)) (eva_cons (evd_op (evd_op (evd_slT (lo := none) (hi := some (k : Int)) (evd_var (d := .tuple (lotsD nu others)) rfl (dp_mono kk.bas _ _ h2)) evo_none (evo_some (K := K) (evd_var rfl (.int (k : Int)))))
        (evd_tup (eva_cons (evd_op (evd_var (d := lotN nu l) rfl hdv) (evd_tup (eva_cons (evd_var rfl (dp_mono kk.bas _ _ h3)) eva_nil) z100) (rd_catA (lt1 l hll))) eva_nil) z100) (rd_catA ?s1))
        (evd_slT (lo := some ((k + 1 : Nat) : Int)) (hi := none) (evd_var (d := .tuple (lotsD nu others)) rfl (dp_mono kk.bas _ _ h2)) (evo_some (K := K) (evd_is (evd_op (evd_var rfl (.int (k : Int))) evd_int rd_add) (by rfl))) evo_none) (rd_catA ?s2)) eva_nil)) z200) ?s3) kk.sub fun v5 Hd2 H2 k2 hv5 => ?_
    case s1 =>
      rw [cut_take _ (by omega), List.length_singleton]
      have := List.length_take_le k (lotsD nu others)
      omega
    case s2 =>
      rw [cut_take _ (by omega), cut_drop _ (by omega), List.length_append, List.length_singleton, List.length_drop]
      have := List.length_take_le k (lotsD nu others)
      omega
    case s3 =>
      rw [cut_take _ (by omega), cut_drop _ (by omega), lot_snoc]
      show PyData.tuple [lotN nu top, .tuple _] = PyData.tuple [lotN nu top, .tuple ((others.take k ++ (l ++ [i]) :: others.drop (k + 1)).map (lotN nu))]
      rw [List.map_append, List.map_cons, List.map_take, List.map_drop]
      simp
    obtain ⟨m1, m2⟩ := k2.hid ow.hid hx
    refine ⟨Hd2, k2.bas, some (.int k), some v, rfl, kn_own (kk.trans k2) n1 m1, ?_⟩
    have g := grow_get i others k l hl
    have e6 : (soFar ⟨(top, others), i, most⟩ (k + 1)).map (forD nu) = (soFar ⟨(top, others), i, most⟩ k).map (forD nu) ++ [forD nu (top, others.take k ++ (l ++ [i]) :: others.drop (k + 1))] := by
      show (((top ++ [i], others) :: ((grow others i).take (k + 1)).map fun o => (top, o)).map (forD nu)) = ((top ++ [i], others) :: ((grow others i).take k).map fun o => (top, o)).map (forD nu) ++ _
      rw [List.take_add_one, g]
      simp
    rw [e6]
    exact Own.app m1 (dpAll_mono k2.bas _ _ hxa) hv5
  · rintro σ' Hd H' ⟨c5, c6, rfl, kk, ow⟩
    have lD : (lotsD nu others).length = others.length := List.length_map _
    rw [lD] at ow
    have e7 : soFar ⟨(top, others), i, most⟩ others.length = (top ++ [i], others) :: (grow others i).map fun o => (top, o) := by
      show (_ :: ((grow others i).take others.length).map fun o => (top, o)) = _
      rw [List.take_of_length_le (by rw [grow_len]; exact Nat.le_refl _)]
    rw [e7] at ow
    -- the end: from a list that stands at pf
    have fin : ∀ Hd H' (ds : List PyData), Kn Hb H Hd H' → Own K Hd H' pf ds → ds = (longer top others i most).map (forD nu) → Q (.ref pf) H' := fun Hd H' ds kk ow ed => by
      obtain ⟨Hs, s1, s2, s3, s4⟩ := ow.show_ kk.sub
      refine q (.ref pf) Hs H' ⟨kk.cur, kk.bas.trans s1, s2, fun a o z => ?_⟩ (by rw [ed] at s3; exact s3)
      rcases s4 a o z with y | y
      · rw [y]; exact .inr n1
      · exact kk.nw a o y
    refine sd_if (Hb := Hd) (σ := [some v1, some v2, some v3, some v4, some (.ref pf), c5, c6]) (evt_test (evd_op (K := K) (e_len (evd_var (d := .tuple (lotsD nu others)) rfl (dp_mono kk.bas _ _ h2)) (dlen_lots _).2 (by omega)) (evd_var rfl (dp_mono kk.bas _ _ h4)) rd_lt)) kk.sub (fun z H3 e3 => ?_) fun z H3 e3 => ?_
    · obtain ⟨xs, hx, hxa⟩ := ow.at_
      have hxl : xs.length ≤ 1000 := by
        rw [dpAll_len hxa, List.length_map, List.length_cons, List.length_map, grow_len]
        omega
      refine sd_append (K := K) (Hb := Hd) (d := forD nu (top, others ++ [[i]])) (p := pf) rfl (e3 _ _ hx) (by omega) (evd_is (evd_tup (eva_cons (evd_var rfl (dp_mono kk.bas _ _ h1)) (eva_cons (evd_op (evd_var (d := .tuple (lotsD nu others)) rfl (dp_mono kk.bas _ _ h2)) (evd_tup (eva_cons (evd_tup (eva_cons (evd_var rfl (dp_mono kk.bas _ _ h3)) eva_nil) z100) eva_nil) z100) (rd_catA (by rw [lD, List.length_singleton]; omega))) eva_nil)) z200) ?s4) (kk.sub.trans e3) fun v5 Hd2 H2 k2 hv5 => ?_
      case s4 =>
        show PyData.tuple [lotN nu top, .tuple _] = PyData.tuple [lotN nu top, .tuple ((others ++ [[i]]).map (lotN nu))]
        rw [List.map_append]
        rfl
      have k2' : Kn Hd H' Hd2 H2 := kn_up e3 k2
      obtain ⟨m1, m2⟩ := k2'.hid ow.hid hx
      refine ⟨.ref pf, rfl, fin Hd2 _ _ (kn_own (kk.trans k2') n1 m1) (Own.app m1 (dpAll_mono k2'.bas _ _ hxa) hv5) ?_⟩
      have hb : Nat.blt others.length most = true := by
        have : (others.length : Int) < (most : Int) := of_decide_eq_true z
        exact Nat.ble_eq_true_of_le (by omega)
      unfold longer
      rw [hb]
      simp
    · have ow2 : Own K Hd H3 pf (((top ++ [i], others) :: (grow others i).map fun o => (top, o)).map (forD nu)) := by
        obtain ⟨xs, hx, hxa⟩ := ow.at_
        exact ⟨ow.hid, xs, e3 _ _ hx, hxa⟩
      refine ⟨.ref pf, rfl, fin Hd _ _ ⟨kk.cur.trans e3, kk.bas, kk.sub.trans e3, kk.nw⟩ ow2 ?_⟩
      · have hb : Nat.blt others.length most = false := by
          have h5 : ¬ (others.length : Int) < (most : Int) := of_decide_eq_false z
          cases q : Nat.blt others.length most with
          | false => rfl
          | true => have := Nat.le_of_ble_eq_true q; omega
        unfold longer
        rw [hb]
        simp
end
end Jt

set_option Elab.async false
set_option linter.all false
set_option maxRecDepth 100000
set_option maxHeartbeats 1000000
/-! Walks: looked_for, fewest_forest. -/
namespace Jt
open PySem PySem.Spec PyProof.Rows L2 PySem.W
/-! longer ones are longer -/
theorem grow_ok (i : Nat) : ∀ (o : List (List Nat)), (∀ l ∈ o, l ≠ []) → ∀ y ∈ grow o i, y.flatten.Perm (i :: o.flatten) ∧ (∀ l ∈ y, l ≠ []) ∧ y.length = o.length
  | [], _, y, h => by cases h
  | l :: r, hne, y, h => by
    have h' : y ∈ ((l ++ [i]) :: r) :: (grow r i).map (l :: ·) := h
    rcases List.mem_cons.mp h' with z | z
    · subst z
      refine ⟨?_, fun x hx => ?_, rfl⟩
      · rw [List.flatten_cons, List.flatten_cons, List.append_assoc]
        exact List.perm_middle
      · rcases List.mem_cons.mp hx with q | q
        · rw [q]; simp
        · exact hne x (List.mem_cons_of_mem _ q)
    · obtain ⟨y2, hy, rfl⟩ := List.mem_map.mp z
      obtain ⟨a1, a2, a3⟩ := grow_ok i r (fun x hx => hne x (List.mem_cons_of_mem _ hx)) y2 hy
      refine ⟨?_, fun x hx => ?_, by rw [List.length_cons, List.length_cons, a3]⟩
      · rw [List.flatten_cons, List.flatten_cons]
        exact (a1.append_left l).trans List.perm_middle
      · rcases List.mem_cons.mp hx with q | q
        · rw [q]; exact hne l List.mem_cons_self
        · exact a2 x q
theorem longer_ok (i most : Nat) (top : List Nat) (others : List (List Nat)) (hne : ∀ l ∈ others, l ≠ []) (hm : others.length ≤ most) : ∀ y ∈ longer top others i most, (y.1 ++ y.2.flatten).Perm (i :: (top ++ others.flatten)) ∧ (∀ l ∈ y.2, l ≠ []) ∧ y.2.length ≤ most := by
  intro y h
  have h' : y ∈ ((top ++ [i], others) :: ((grow others i).map fun o => (top, o))) ++ cond (Nat.blt others.length most) [(top, others ++ [[i]])] [] := h
  rcases List.mem_append.mp h' with z | z
  · rcases List.mem_cons.mp z with z | z
    · subst z
      refine ⟨?_, hne, hm⟩
      show (top ++ [i] ++ others.flatten).Perm _
      rw [List.append_assoc]
      exact List.perm_middle
    · obtain ⟨o, ho, rfl⟩ := List.mem_map.mp z
      obtain ⟨a1, a2, a3⟩ := grow_ok i others hne o ho
      refine ⟨?_, a2, by show o.length ≤ most; omega⟩
      exact (a1.append_left top).trans List.perm_middle
  · cases hb : Nat.blt others.length most with
    | false => rw [hb] at z; cases z
    | true =>
      rw [hb] at z
      have z : y = (top, others ++ [[i]]) := List.mem_singleton.mp z
      subst z
      have hlt : others.length < most := Nat.le_of_ble_eq_true hb
      refine ⟨?_, fun x hx => ?_, by show (others ++ [[i]]).length ≤ most; rw [List.length_append, List.length_singleton]; omega⟩
      · show (top ++ (others ++ [[i]]).flatten).Perm _
        rw [List.flatten_append]
        show (top ++ (others.flatten ++ [i])).Perm _
        rw [← List.append_assoc]
        exact List.perm_append_comm (l₁ := top ++ others.flatten) (l₂ := [i])
      · rcases List.mem_append.mp hx with q | q
        · exact hne x q
        · rw [List.mem_singleton.mp q]; simp
theorem nodup_flat : ∀ o : List (List Nat), o.flatten.Nodup → (∀ l ∈ o, l ≠ []) → o.Nodup
  | [], _, _ => List.nodup_nil
  | l :: r, h, hne => by
    rw [List.flatten_cons] at h
    have h3 := List.nodup_append.mp h
    refine List.nodup_cons.mpr ⟨fun hm => ?_, nodup_flat r h3.2.1 fun x hx => hne x (List.mem_cons_of_mem _ hx)⟩
    cases hl : l with
    | nil => exact hne l List.mem_cons_self hl
    | cons a b =>
      have h4 : a ∈ l := by rw [hl]; exact List.mem_cons_self
      exact h3.2.2 a h4 a (List.mem_flatten.mpr ⟨l, hm, h4⟩) rfl
structure LkI where
  a : T
  b : T
  names : List Nat
  p : Fo
  most : Nat
  ring : Bool
structure LkOk (n : Nat) (x : LkI) : Prop where
  dpa : depthT x.a < 7
  dpb : depthT x.b < 7
  few : (leaves x.a).length ≤ 6
  nd : (leaves x.a).Nodup
  same : (leaves x.b).Perm (leaves x.a)
  all : (x.p.1 ++ x.p.2.flatten ++ x.names).Perm (leaves x.a)
  ne : ∀ l ∈ x.p.2, l ≠ []
  mo : x.most ≤ 4
  oth : x.p.2.length ≤ x.most
  nl : x.names.length < n
theorem LkOk.size {n : Nat} {x : LkI} (o : LkOk n x) : x.p.1.length ≤ 6 ∧ x.names.length ≤ 6 ∧ (∀ l ∈ x.p.2, l.length ≤ 6 ∧ ∀ i ∈ l, i ∈ leaves x.a) ∧ (∀ i ∈ x.names, i ∈ leaves x.a) := by
  have h1 := o.all.length_eq
  have h2 := o.few
  rw [List.length_append, List.length_append] at h1
  refine ⟨by omega, by omega, fun l hl => ⟨?_, fun i hi => ?_⟩, fun i hi => o.all.mem_iff.mp (List.mem_append_right _ hi)⟩
  · have h3 : l.length ≤ x.p.2.flatten.length := (List.sublist_flatten_of_mem hl).length_le
    omega
  · exact o.all.mem_iff.mp (List.mem_append_left _ (List.mem_append_right _ (List.mem_flatten.mpr ⟨l, hl, hi⟩)))
theorem LkOk.sh {n : Nat} {x : LkI} (o : LkOk n x) : ShOk x.a x.p.1 x.p.2 ∧ ShOk x.b x.p.1 x.p.2 := by
  obtain ⟨h1, h2, h3, h4⟩ := o.size
  have hm := o.mo
  have ho := o.oth
  exact ⟨⟨o.dpa, o.few, by omega, by omega, fun l hl => ⟨by have := (h3 l hl).1; omega, (h3 l hl).2⟩⟩,
    ⟨o.dpb, by rw [o.same.length_eq]; exact o.few, by omega, by omega, fun l hl => ⟨by have := (h3 l hl).1; omega, fun i hi => o.same.mem_iff.mpr ((h3 l hl).2 i hi)⟩⟩⟩
theorem LkOk.ndo {n : Nat} {x : LkI} (o : LkOk n x) : x.p.2.Nodup := by
  have h := o.all.nodup_iff.mpr o.nd
  have h1 := (List.nodup_append.mp (List.nodup_append.mp h).1).2.1
  exact nodup_flat _ h1 o.ne
theorem LkOk.step {n i : Nat} {r : List Nat} {x : LkI} (o : LkOk (n + 1) x) (e : x.names = i :: r) {y : Fo} (hy : y ∈ longer x.p.1 x.p.2 i x.most) : LkOk n ⟨x.a, x.b, r, y, x.most, x.ring⟩ := by
  obtain ⟨a1, a2, a3⟩ := longer_ok i x.most x.p.1 x.p.2 o.ne o.oth y hy
  refine ⟨o.dpa, o.dpb, o.few, o.nd, o.same, ?_, a2, o.mo, a3, by have := o.nl; rw [e, List.length_cons] at this; show r.length < n; omega⟩
  have h := o.all
  rw [e] at h
  refine List.Perm.trans ?_ h
  show (y.1 ++ y.2.flatten ++ r).Perm (x.p.1 ++ x.p.2.flatten ++ i :: r)
  exact (a1.append_right r).trans (List.perm_middle (l₁ := x.p.1 ++ x.p.2.flatten)).symm
section
variable {P : Program} {w : World} {K : PySem.W.Frag} {mg : Str → Option Value} {base : Heap} {f f1 f2 f3 f4 : Addr} {fd fd1 fd2 fd3 fd4 : FuncData} {nu : Nat → Str}
def optF (nu : Nat → Str) : Option Fo → PyData
  | none => .none
  | some p => forD nu p
def lookR (x : LkI) : Option Fo := look x.a x.b x.most x.ring x.names x.p.1 x.p.2
abbrev nmsD (nu : Nat → Str) (l : List Nat) : PyData := .list (l.map (nmD nu))
abbrev spLook (K : PySem.W.Frag) (nu : Nat → Str) (n : Nat) : Sp := spD K (LkOk n) (fun x => [treeD nu x.a, treeD nu x.b, nmsD nu x.names, forD nu x.p, .int (x.most : Nat), .bool x.ring]) fun x => optF nu (lookR x)
abbrev N_lookedfor : List Str := ["one", "other", "names", "begun", "most", "ringless", "top", "others", "longer", "found"]
abbrev P_lookedfor : List Str := ["one", "other", "names", "begun", "most", "ringless"]
theorem sc_lookedfor : FnScope N_lookedfor P_lookedfor (defScope s_lookedfor) := ⟨rfl, rfl, rfl, by decide +kernel, rfl, by decide +kernel, by decide +kernel⟩
theorem findF_some {α β : Type} {f : α → Option β} {x : α} {r : List α} {y : β} (h : f x = some y) : findF f (x :: r) = some y := by
  unfold findF
  rw [h]
theorem findF_none {α β : Type} {f : α → Option β} {x : α} {r : List α} (h : f x = none) : findF f (x :: r) = findF f r := by
  rw [findF, h]
theorem isNone_optF : ∀ o : Option Fo, isNone (optF nu o) = o.isNone
  | none => rfl
  | some _ => rfl
theorem shaped_nms (N : Nu nu) (l : List Nat) : SeqAt.shaped (nmsD nu l) = true ∧ nd (nmsD nu l) = true := by
  have e : nmsD nu l = .list ((l.map nu).map .str) := by show PyData.list _ = _; rw [List.map_map]; rfl
  rw [e]
  have z := shaped_lot N l
  refine ⟨?_, by rw [nd]; exact nd_strs _⟩
  unfold SeqAt.shaped at z ⊢
  exact z
theorem ok_lookedfor {n k k1 k2 k3 : Nat} (N : Nu nu) (hk1 : k1 ≤ k) (hk2 : k2 ≤ k) (hk3 : k3 ≤ k) (F : FnP K "looked_for" s_lookedfor f fd) (B : Bi mg) (K0 : KeptK P w K mg base "looked_for" k 5 P_lookedfor "ringless" (spLook K nu n) f1 fd1)
    (K1 : Kept P w K mg base "longer_ones" k1 ["top", "others", "name", "most"] (spLonger K nu) f2 fd2) (K2 : Kept P w K mg base "share" k2 ["one", "other", "top", "others"] (spShare K nu) f3 fd3) (K3 : Kept P w K mg base "order_of" k3 ["one", "other", "others"] (spOrder K nu) f4 fd4) :
    FnOk P w K mg base CX0 (k + 1) f fd P_lookedfor (spLook K nu (n + 1)) := by
  refine F.ok sc_lookedfor (fun vs H Q E h => sp_len h fun _ => rfl) (fun cdv A outer s H vs Q E hr h => ?_)
  obtain ⟨⟨a, b, names, ⟨top, others⟩, most, ring⟩, Hb, ho, e, hv, q⟩ := h
  have hsh := ho.sh
  have hsz := ho.size
  have hnd := ho.ndo
  refine ⟨_, PSs.nox (pss_cons (q_unpack K (i := 6) (j := 7) rfl sc_lookedfor.nd rfl rfl (pv 3))
    (pss_cons (ps_if (pt_cmpR (q_eqD K hr.units) (pv 2) (pe_lst pa_nil) (nomark _)) (pss_one (ps_ret (pe_ifExp (PW.pt (pw_and (pt_val (pv 5)) (pw_and1 (pt_cmpR op_isN (p_call K3 hr (pa_cons (pv 0) (pa_cons (pv 1) (pa_cons (pv 7) pa_nil))) hk3) pe_non (nomark _))))) pe_non (pe_tup (pa_cons (pv 6) (pa_cons (p_tuple K B (p_sortT B hr.units K (pv 7))) pa_nil)))))) pss_nil)
    (pss_cons (ps_for PassesOwn.never rfl (q_list K (p_call K1 hr (pa_cons (pv 6) (pa_cons (pv 7) (pa_cons (pe_ix (q_ixL K) (pv 2) pe_int (fun _ _ => rfl)) (pa_cons (pv 4) pa_nil)))) hk1)) (pg_name (i := 8) sc_lookedfor.nd rfl (Or.inl rfl))
      (pss_one (ps_if (pt_val (p_call K2 hr (pa_cons (pv 0) (pa_cons (pv 1) (pa_cons (pe_ix (q_ixT K) (pv 8) pe_int (fun _ _ => rfl)) (pa_cons (pe_ix (q_ixT K) (pv 8) pe_int (fun _ _ => rfl)) pa_nil)))) hk2))
        (pss_cons (ps_set (i := 9) sc_lookedfor.nd rfl (Or.inl rfl) (p_callK K0 hr (pa_cons (pv 0) (pa_cons (pv 1) (pa_cons (pe_slice sl_list (pv 2) (po_some pe_int) po_none) (pa_cons (pv 8) (pa_cons (pv 4) pa_nil))))) (pv 5)))
        (pss_one (ps_if (pt_cmpR op_notN (pv 9) pe_non (nomark _)) (pss_one (ps_ret (pv 9))) pss_nil))) pss_nil)))
    (pss_one (ps_ret pe_non))))), ?_⟩
  obtain ⟨v1, v2, v3, v4, v5, v6, rfl, h1, h2, h3, h4, h5, h6⟩ := dp6 hv
  have h1 : Dp K Hb v1 (treeD nu a) := h1
  have h2 : Dp K Hb v2 (treeD nu b) := h2
  have h3 : Dp K Hb v3 (nmsD nu names) := h3
  have h4 : Dp K Hb v4 (.tuple [lotN nu top, .tuple (lotsD nu others)]) := h4
  have h5 : Dp K Hb v5 (.int (most : Nat)) := h5
  have h6 : Dp K Hb v6 (.bool ring) := h6
  have oa : ShOk a top others := hsh.1
  have ob : ShOk b top others := hsh.2
  have on : others.Nodup := hnd
  have one : ∀ l ∈ others, l ≠ [] := ho.ne
  have htop : top.length ≤ 6 := hsz.1
  have hoth : others.length ≤ 4 := oa.oth
  have hlots : ∀ l ∈ others, l.length ≤ 6 := fun l hl => (hsz.2.2.1 l hl).1
  refine sd_unpack (K := K) (Hb := Hb) (evd_var rfl h4) e fun u7 u8 Hc H1 k1 ht hth => ?_
  obtain ⟨sn, nn⟩ := shaped_nms N names
  have key : EvT (tTest (tOp (rEqD K) (tVar 2) (tLst tNil))) [some v1, some v2, some v3, some v4, some v5, some v6, some u7, some u8, none, none] Hc (PyData.eqv (nmsD nu names) (.list [])) :=
    evt_test (evd_op (evd_var rfl (dp_mono k1.bas _ _ h3)) (evn_lst eva_nil).asD (rd_eqD sn (by decide) nn (by decide)))
  refine sd_if key k1.sub (fun z H2 e2 => ?_) fun z H2 e2 => ?_
  · have hn : names = [] := by
      cases names with
      | nil => rfl
      | cons x y => simp [PyData.eqv, PyData.eqvAll] at z
    subst hn
    have er : lookR ⟨a, b, [], (top, others), most, ring⟩ = cond (ring && !ordered a b others) none (some (top, sortL others)) := rfl
    have q2 : ∀ v Hb' H', Kn Hb H Hb' H' → Dp K Hb' v (optF nu (cond (ring && !ordered a b others) none (some (top, sortL others)))) → Q v H' := fun v Hb' H' k hv => q v Hb' H' k (by show Dp K Hb' v (optF nu (lookR _)); rw [er]; exact hv)
    have kt : EvT (tAnd (tB (tVar 5)) (tTest (tOp (fun x y H Q => y = .non ∧ Q (.bl (decide (x = .non))) H) (tCall (spOrder K nu) [] E0 (tCons (tVar 0) (tCons (tVar 1) (tCons (tVar 7) tNil)))) (tC .non)))) [some v1, some v2, some v3, some v4, some v5, some v6, some u7, some u8, none, none] Hc (ring && !ordered a b others) :=
      evt_and (evt_B (evd_var rfl (dp_mono k1.bas _ _ h6))) fun _ => evt_test (e_noOrder (eva_cons (evd_var rfl (dp_mono k1.bas _ _ h1)) (eva_cons (evd_var rfl (dp_mono k1.bas _ _ h2)) (eva_cons (evd_var rfl hth) eva_nil))) (oa.hd on) (ob.hd on))
    refine sd_ret (K := K) (Hb := Hc) (evd_if kt (d := optF nu (cond (ring && !ordered a b others) none (some (top, sortL others)))) (fun y => ?_) fun y => ?_) (k1.sub.trans e2) fun v Hb' H' k hv => q2 v Hb' H' (k1.trans (kn_up e2 k)) hv
    · rw [y]; exact evd_non
    · rw [y]
      exact evd_tup (eva_cons (evd_var rfl ht) (eva_cons (e_tup (e_sortT N (evd_var rfl hth) one (by omega)).asD) eva_nil)) (by exact (by decide : 2 ≤ 100000))
  · cases names with
    | nil => simp [PyData.eqv, PyData.eqvAll] at z
    | cons i r =>
    have er : lookR ⟨a, b, i :: r, (top, others), most, ring⟩ = findF (fun p => cond (share a b p.1 p.2) (look a b most ring r p.1 p.2) none) (longer top others i most) := rfl
    have q2 : ∀ v Hb' H', Kn Hb H Hb' H' → Dp K Hb' v (optF nu (findF (fun p => cond (share a b p.1 p.2) (look a b most ring r p.1 p.2) none) (longer top others i most))) → Q v H' := fun v Hb' H' k hv => q v Hb' H' k (by show Dp K Hb' v (optF nu (lookR _)); rw [er]; exact hv)
    have step : ∀ y ∈ longer top others i most, LkOk n ⟨a, b, r, y, most, ring⟩ := fun y hy => ho.step rfl hy
    have lg : LgOk ⟨(top, others), i, most⟩ := ⟨by show top.length ≤ 100; omega, by show others.length ≤ 100; omega, fun l hl => by have := hlots l hl; omega⟩
    have ev : EvD K (tCall (spLonger K nu) [] E0 (tCons (tVar 6) (tCons (tVar 7) (tCons (tOp (rIxL K) (tVar 2) (tC (.int 0))) (tCons (tVar 4) tNil))))) [some v1, some v2, some v3, some v4, some v5, some v6, some u7, some u8, none, none] Hc (.list ((longer top others i most).map (forD nu))) :=
      evd_call (eva_cons (evd_var rfl ht) (eva_cons (evd_var rfl hth) (eva_cons (evd_op (evd_var rfl (dp_mono k1.bas _ _ h3)) evd_int (rd_ixL (d := nmD nu i) (atI_map (nmD nu) (xs := i :: r) (j := 0) rfl rfl))) (eva_cons (evd_var rfl (dp_mono k1.bas _ _ h5)) eva_nil)))) (LgI.mk (top, others) i most) lg rfl
    generalize longer top others i most = L at q2 step ev
    have k1' : Kn Hb H Hc H2 := ⟨k1.cur.trans e2, k1.bas, k1.sub.trans e2, k1.nw⟩
    refine sd_for (K := K) (Hb := Hc) (wad_list ev) (k1.sub.trans e2) (fun m σ' Hd H' => ∃ c8 c9, σ' = [some v1, some v2, some v3, some v4, some v5, some v6, some u7, some u8, c8, c9] ∧ Kn Hb H Hd H' ∧ Ex Hc Hd ∧
      findF (fun p => cond (share a b p.1 p.2) (look a b most ring r p.1 p.2) none) (L.drop m) = findF (fun p => cond (share a b p.1 p.2) (look a b most ring r p.1 p.2) none) L) (fun Hb' H' k => ⟨none, none, rfl, k1'.trans k, k.bas, rfl⟩) (fun m σ' Hd H' ⟨_, _, _, kk, _, _⟩ => kk.sub) ?_ ?_
    · rintro m d v σ' Hd H' hdm ⟨c8, c9, rfl, kk, ec, hf⟩ hdv
      rw [List.getElem?_map] at hdm
      cases hL : L[m]? with
      | none => rw [hL] at hdm; cases hdm
      | some y =>
      rw [hL] at hdm
      have ed : forD nu y = d := Option.some.inj hdm
      subst ed
      have hy := step y (List.mem_of_getElem? hL)
      have hml : m < L.length := (List.getElem?_eq_some_iff.mp hL).1
      have hdrop : L.drop m = y :: L.drop (m + 1) := by
        rw [List.drop_eq_getElem_cons hml]
        have : L[m] = y := by rw [List.getElem?_eq_getElem hml] at hL; exact Option.some.inj hL
        rw [this]
      rw [hdrop] at hf
      have hfS : ∀ z, cond (share a b y.1 y.2) (look a b most ring r y.1 y.2) none = some z → findF (fun p => cond (share a b p.1 p.2) (look a b most ring r p.1 p.2) none) L = some z := fun z hz => by
        rw [← hf]
        exact findF_some (f := fun p : Fo => cond (share a b p.1 p.2) (look a b most ring r p.1 p.2) none) hz
      have hfN : cond (share a b y.1 y.2) (look a b most ring r y.1 y.2) none = none → findF (fun p => cond (share a b p.1 p.2) (look a b most ring r p.1 p.2) none) (L.drop (m + 1)) = findF (fun p => cond (share a b p.1 p.2) (look a b most ring r p.1 p.2) none) L := fun hz => by
        rw [← hf]
        exact (findF_none (f := fun p : Fo => cond (share a b p.1 p.2) (look a b most ring r p.1 p.2) none) hz).symm
      have hyd : Dp K Hd v (.tuple [lotN nu y.1, .tuple (lotsD nu y.2)]) := hdv
      have eb : Ex Hb Hd := kk.bas
      have ks : EvT (tB (tCall (spShare K nu) [] E0 (tCons (tVar 0) (tCons (tVar 1) (tCons (tOp (rIxT K) (tVar 8) (tC (.int 0))) (tCons (tOp (rIxT K) (tVar 8) (tC (.int 1))) tNil)))))) [some v1, some v2, some v3, some v4, some v5, some v6, some u7, some u8, some v, c9] Hd (share a b y.1 y.2) :=
        evt_B (evd_call (eva_cons (evd_var rfl (dp_mono eb _ _ h1)) (eva_cons (evd_var rfl (dp_mono eb _ _ h2)) (eva_cons (evd_op (evd_var rfl hyd) evd_int (rd_ixT (d := lotN nu y.1) rfl)) (eva_cons (evd_op (evd_var rfl hyd) evd_int (rd_ixT (d := .tuple (lotsD nu y.2)) rfl)) eva_nil)))) (((a, b), y.1), y.2) (And.intro hy.sh.1 hy.sh.2) rfl)
      refine sd_if ks kk.sub (fun z2 H3 e3 => ?_) fun z2 H3 e3 => ?_
      · have kl : EvD K (tCallN 5 1 (spLook K nu n) (fun vs zs => vs ++ zs) E0 (tCons (tVar 0) (tCons (tVar 1) (tCons (tSl (rSlL K) (tVar 2) (tPart (tC (.int 1))) tNoPart) (tCons (tVar 8) (tCons (tVar 4) tNil))))) (tCons (tVar 5) tNil)) [some v1, some v2, some v3, some v4, some v5, some v6, some u7, some u8, some v, c9] Hd (optF nu (look a b most ring r y.1 y.2)) :=
          evd_callK (eva_cons (evd_var rfl (dp_mono eb _ _ h1)) (eva_cons (evd_var rfl (dp_mono eb _ _ h2)) (eva_cons (evd_is (e_slL (lo := some ((1 : Nat) : Int)) (hi := none) (evd_var rfl (dp_mono eb _ _ h3)) (evo_some (K := K) evd_int) evo_none).asD (b := nmsD nu r) (by rw [cut_drop _ (by simp)]; rfl)) (eva_cons (evd_var rfl hdv) (eva_cons (evd_var rfl (dp_mono eb _ _ h5)) eva_nil))))) (evd_var rfl (dp_mono eb _ _ h6)) (LkI.mk a b r y most ring) hy rfl rfl
        refine sd_set (K := K) (Hb := Hd) kl (kk.sub.trans e3) fun v9 He H4 k4 h9 => ?_
        have kk4 : Kn Hb H He H4 := kk.trans (kn_up e3 k4)
        have kn9 : EvT (tTest (tOp (fun x y H Q => y = .non ∧ Q (.bl (!decide (x = .non))) H) (tVar 9) (tC .non))) [some v1, some v2, some v3, some v4, some v5, some v6, some u7, some u8, some v, some v9] He (!isNone (optF nu (look a b most ring r y.1 y.2))) :=
          evt_test (evd_op (evd_var rfl h9) evd_non rd_notN)
        refine sd_if kn9 k4.sub (fun z3 H5 e5 => ?_) fun z3 H5 e5 => ?_
        · rw [isNone_optF] at z3
          cases hlk : look a b most ring r y.1 y.2 with
          | none => rw [hlk] at z3; cases z3
          | some x =>
            rw [hlk] at h9
            have hf2 := hfS x (by rw [z2, hlk]; rfl)
            refine ⟨v9, rfl, q2 v9 He H5 ⟨kk4.cur.trans e5, kk4.bas, kk4.sub.trans e5, kk4.nw⟩ ?_⟩
            rw [hf2]
            exact h9
        · rw [isNone_optF] at z3
          cases hlk : look a b most ring r y.1 y.2 with
          | some x => rw [hlk] at z3; cases z3
          | none =>
            have hf' := hfN (by rw [z2, hlk]; rfl)
            exact ⟨He, k4.bas, some v, some v9, rfl, ⟨kk4.cur.trans e5, kk4.bas, kk4.sub.trans e5, kk4.nw⟩, ec.trans k4.bas, hf'⟩
      · have hf' := hfN (by rw [z2]; rfl)
        exact ⟨Hd, Evl.Ex.refl _, some v, c9, rfl, ⟨kk.cur.trans e3, kk.bas, kk.sub.trans e3, kk.nw⟩, ec, hf'⟩
    · rintro σ' Hd H' ⟨c8, c9, rfl, kk, ec, hf⟩
      rw [List.length_map, List.drop_length] at hf
      refine q2 V.non Hd H' kk ?_
      rw [← hf]
      exact .non
end
end Jt

set_option Elab.async false
set_option linter.all false
set_option maxRecDepth 100000
set_option maxHeartbeats 1000000
/-! Walks: fewest_forest. -/
namespace Jt
open PySem PySem.Spec PyProof.Rows L2 PySem.W
section
variable {P : Program} {w : World} {K : PySem.W.Frag} {mg : Str → Option Value} {base : Heap} {f f1 f2 f3 f4 : Addr} {fd fd1 fd2 fd3 fd4 : FuncData} {nu : Nat → Str}
structure FwI where
  a : T
  b : T
  ring : Bool
  x : Fo
structure Pair (a b : T) : Prop where
  dpa : depthT a < 7
  dpb : depthT b < 7
  few : (leaves a).length ≤ 6
  nd : (leaves a).Nodup
  same : (leaves b).Perm (leaves a)
structure FwOk (x : FwI) : Prop where
  pr : Pair x.a x.b
  fw : fewest x.a x.b x.ring (namesT x.a) 5 0 = some x.x
abbrev spFewest (K : PySem.W.Frag) (nu : Nat → Str) : Sp := spD K FwOk (fun x => [treeD nu x.a, treeD nu x.b, .bool x.ring]) fun x => forD nu x.x
abbrev N_fewest : List Str := ["one", "other", "ringless", "names", "most", "found"]
theorem sc_fewest : FnScope N_fewest ["one", "other", "ringless"] (defScope s_fewestforest) := ⟨rfl, rfl, rfl, by decide +kernel, rfl, by decide +kernel, by decide +kernel⟩
theorem nms_eq (l : List Nat) : (l.map nu).map PyData.str = l.map (nmD nu) := by rw [List.map_map]; rfl
theorem ok_fewest {k k2 : Nat} {kws : List (Str × V)} (hk2 : k2 ≤ k) (F : FnK K "fewest_forest" s_fewestforest kws f fd) (B : Bi mg) (K1 : KeptK P w K mg base "looked_for" k 5 P_lookedfor "ringless" (spLook K nu 7) f1 fd1)
    (K2 : Kept P w K mg base "names_in" k2 ["tree"] (spNamesIn K nu 7) f2 fd2) : FnOk P w K mg base CX0 (k + 1) f fd ["one", "other", "ringless"] (spFewest K nu) := by
  refine F.ok sc_fewest (fun vs H Q E h => sp_len h fun _ => rfl) (fun cdv A outer s H vs Q E hr h => ?_)
  obtain ⟨⟨a, b, ring, x⟩, Hb, ⟨pr, fw⟩, e, hv, q⟩ := h
  have pr : Pair a b := pr
  have fw : fewest a b ring (namesT a) 5 0 = some x := fw
  refine ⟨_, PSs.nox (pss_cons (ps_set (i := 3) sc_fewest.nd rfl (Or.inl rfl) (p_list K B (p_call K2 hr (pa_cons (pv 0) pa_nil) hk2)))
    (pss_cons (ps_set (i := 4) sc_fewest.nd rfl (Or.inl rfl) pe_int)
    (pss_one (ps_while PassesOwn.never (pt_val pe_bl)
      (pss_cons (ps_set (i := 5) sc_fewest.nd rfl (Or.inl rfl) (p_callK K1 hr (pa_cons (pv 0) (pa_cons (pv 1) (pa_cons (pv 3) (pa_cons (pe_tup (pa_cons (pe_tup pa_nil) (pa_cons (pe_tup pa_nil) pa_nil))) (pa_cons (pv 4) pa_nil))))) (pv 2)))
      (pss_cons (ps_if (pt_cmpR op_notN (pv 5) pe_non (nomark _)) (pss_one (ps_ret (pv 5))) pss_nil)
      (pss_one (ps_aug (i := 4) sc_fewest.nd rfl (Or.inl rfl) pe_int ip_add)))))))), ?_⟩
  obtain ⟨v1, v2, v3, rfl, h1, h2, h3⟩ := dp3 hv
  have h1 : Dp K Hb v1 (treeD nu a) := h1
  have h2 : Dp K Hb v2 (treeD nu b) := h2
  have h3 : Dp K Hb v3 (.bool ring) := h3
  have hla : depthT a < 7 ∧ (leaves a).length ≤ 100 := ⟨pr.dpa, by have := pr.few; omega⟩
  have hnm := names_len a
  have hfew := pr.few
  refine sd_set (K := K) (Hb := Hb) (d := nmsD nu (namesT a)) (evd_is (e_list (evd_call (eva_cons (evd_var rfl h1) eva_nil) a hla rfl) (ds := ((namesT a).map nu).map .str) (.inr rfl)).asD (by rw [nms_eq])) e fun vn Hc H1 k1 hn => ?_
  dsimp only
  refine sd_set (K := K) (Hb := Hc) (d := .int 0) evd_int k1.sub fun v0 Hd H2 k2 h0 => ?_
  cases h0
  refine sd_while (Hb := Hd) (fun m σ' He H' => ∃ (k : Nat) (c5 : Option V), σ' = [some v1, some v2, some v3, some vn, some (.int k), c5] ∧ Kn Hb H He H' ∧ Dp K He vn (nmsD nu (namesT a)) ∧ k + m = 5 ∧ fewest a b ring (namesT a) m k = some x) 5
    ⟨0, none, rfl, k1.trans k2, dp_mono k2.bas _ _ hn, rfl, fw⟩ (fun m σ' He H' ⟨_, _, _, kk, _⟩ => kk.sub) ?_
  rintro m σ' He H' ⟨k, c5, rfl, kk, hvn, hkm, hfw⟩
  refine ⟨true, evt_B (K := K) evd_bl, fun _ H3 e3 => ?_, fun z => Bool.noConfusion z⟩
  cases m with
  | zero => cases hfw
  | succ m =>
  have eb : Ex Hb He := kk.bas
  have ok : LkOk 7 (LkI.mk a b (namesT a) ([], []) k ring) := ⟨pr.dpa, pr.dpb, pr.few, pr.nd, pr.same, sortN_perm _, fun l hl => (nomatch hl), by show k ≤ 4; omega, Nat.zero_le _, by show (namesT a).length < 7; omega⟩
  have kl : EvD K (tCallN 5 1 (spLook K nu 7) (fun vs zs => vs ++ zs) E0 (tCons (tVar 0) (tCons (tVar 1) (tCons (tVar 3) (tCons (tTup (tCons (tTup tNil) (tCons (tTup tNil) tNil))) (tCons (tVar 4) tNil))))) (tCons (tVar 2) tNil)) [some v1, some v2, some v3, some vn, some (.int k), c5] He (optF nu (look a b k ring (namesT a) [] [])) :=
    evd_callK (eva_cons (evd_var rfl (dp_mono eb _ _ h1)) (eva_cons (evd_var rfl (dp_mono eb _ _ h2)) (eva_cons (evd_var rfl hvn) (eva_cons (evd_tup (eva_cons (evd_tup eva_nil) (eva_cons (evd_tup eva_nil) eva_nil)) (by exact (by decide : 2 ≤ 100000))) (eva_cons (evd_var rfl (.int k)) eva_nil))))) (evd_var rfl (dp_mono eb _ _ h3)) (LkI.mk a b (namesT a) ([], []) k ring) ok rfl rfl
  refine sd_set (K := K) (Hb := He) kl (kk.sub.trans e3) fun v5 Hf H4 k4 h5 => ?_
  have kk4 : Kn Hb H Hf H4 := kk.trans (kn_up e3 k4)
  have kn5 : EvT (tTest (tOp (fun x y H Q => y = .non ∧ Q (.bl (!decide (x = .non))) H) (tVar 5) (tC .non))) [some v1, some v2, some v3, some vn, some (.int k), some v5] Hf (!isNone (optF nu (look a b k ring (namesT a) [] []))) :=
    evt_test (evd_op (evd_var rfl h5) evd_non rd_notN)
  refine sd_if kn5 k4.sub (fun z H5 e5 => ?_) fun z H5 e5 => ?_
  · rw [isNone_optF] at z
    cases hlk : look a b k ring (namesT a) [] [] with
    | none => rw [hlk] at z; cases z
    | some y =>
      rw [fewest, hlk] at hfw
      have ey : y = x := Option.some.inj hfw
      rw [hlk, ey] at h5
      exact ⟨v5, rfl, q v5 Hf H5 ⟨kk4.cur.trans e5, kk4.bas, kk4.sub.trans e5, kk4.nw⟩ h5⟩
  · rw [isNone_optF] at z
    cases hlk : look a b k ring (namesT a) [] [] with
    | some y => rw [hlk] at z; cases z
    | none =>
      rw [fewest, hlk] at hfw
      exact ⟨.int k, rfl, (k : Int), 1, rfl, rfl, m, Hf, Nat.lt_succ_self _, k + 1, some v5, rfl, ⟨kk4.cur.trans e5, kk4.bas, kk4.sub.trans e5, kk4.nw⟩, dp_mono k4.bas _ _ hvn, by omega, hfw⟩
end
end Jt

set_option Elab.async false
set_option linter.all false
set_option maxRecDepth 100000
set_option maxHeartbeats 1000000
/-! The law's pen and its draws. -/
namespace Jt
open PySem PySem.Spec PyProof.Rows L2 PySem.W
/-! ### ints, the heap as it stands -/
def EvI (te : TE) (σ : L2.St) (H : Hp) (i : Int) : Prop := ∀ Q : VK, Q (.int i) H → te σ H Q
def EvC (t : TT) (σ : L2.St) (H : Hp) (b : Bool) : Prop := ∀ Q : Bool → Hp → Prop, Q b H → t σ H Q
section
variable {K : PySem.W.Frag} {σ : L2.St} {H : Hp} {ta tb te : TE} {t u : TT} {i j : Int}
theorem evi_int : EvI (tC (.int i)) σ H i := fun Q q => q
theorem evi_var {k : Nat} (h : σ[k]? = some (some (.int i))) : EvI (tVar k) σ H i := fun Q q => ⟨_, h, q⟩
theorem evi_add (ha : EvI ta σ H i) (hb : EvI tb σ H j) : EvI (tOp (rI0 fun i j => .int (i + j)) ta tb) σ H (i + j) := fun Q q => ha _ (hb _ ⟨i, j, rfl, rfl, q⟩)
theorem evi_mul (ha : EvI ta σ H i) (hb : EvI tb σ H j) (hc : CMul i j) : EvI (tOp (rI CMul fun i j => .int (i * j)) ta tb) σ H (i * j) := fun Q q => ha _ (hb _ ⟨i, j, rfl, rfl, hc, q⟩)
theorem evi_mod (ha : EvI ta σ H i) (hb : EvI tb σ H j) (hc : 0 < j) : EvI (tOp (rI (fun _ j => 0 < j) fun i j => .int (i % j)) ta tb) σ H (i % j) := fun Q q => ha _ (hb _ ⟨i, j, rfl, rfl, hc, q⟩)
theorem evi_fdiv (ha : EvI ta σ H i) (hb : EvI tb σ H j) (hc : CDiv i j) : EvI (tOp (rI CDiv fun i j => .int (i / j)) ta tb) σ H (i / j) := fun Q q => ha _ (hb _ ⟨i, j, rfl, rfl, hc, q⟩)
theorem evi_pow (ha : EvI ta σ H i) (hb : EvI tb σ H j) (hc : CPow i j) : EvI (tOp (rI CPow fun i j => .int (i ^ j.toNat)) ta tb) σ H (i ^ j.toNat) := fun Q q => ha _ (hb _ ⟨i, j, rfl, rfl, hc, q⟩)
theorem evi_get {k : Nat} {p : Addr} {x : Str} {kvs : List (Key × V)} (hv : σ[k]? = some (some (.ref p))) (hp : H p = some (.dK kvs)) (hk : valV kvs (.inr x) = some (.int i)) : EvI (tDGet (tVar k) (tC (.str x))) σ H i := fun Q q =>
  ⟨_, hv, p, .int i, rfl, by have := DGet.k (k := Sum.inr x) hp; rw [hk] at this; exact this, q⟩
theorem evi_abs (ha : EvI ta σ H i) : EvI (tCB (fun xs H Q => ∃ i, xs = [.int i] ∧ Q (.int (if i < 0 then -i else i)) H) (tCons ta tNil)) σ H (if i < 0 then -i else i) := fun Q q => ha _ ⟨i, rfl, q⟩
theorem evc_lt (ha : EvI ta σ H i) (hb : EvI tb σ H j) : EvC (tTest (tOp (rI0 fun i j => .bl (decide (i < j))) ta tb)) σ H (decide (i < j)) := fun Q q => ha _ (hb _ ⟨i, j, rfl, rfl, _, rfl, q⟩)
theorem evc_gt (ha : EvI ta σ H i) (hb : EvI tb σ H j) : EvC (tTest (tOp (rI0 fun i j => .bl (decide (i > j))) ta tb)) σ H (decide (i > j)) := fun Q q => ha _ (hb _ ⟨i, j, rfl, rfl, _, rfl, q⟩)
theorem evc_ge (ha : EvI ta σ H i) (hb : EvI tb σ H j) : EvC (tTest (tOp (rI0 fun i j => .bl (decide (i ≥ j))) ta tb)) σ H (decide (i ≥ j)) := fun Q q => ha _ (hb _ ⟨i, j, rfl, rfl, _, rfl, q⟩)
theorem evc_and {a b : Bool} (h1 : EvC t σ H a) (h2 : EvC u σ H b) : EvC (tAnd t u) σ H (a && b) := fun Q q => h1 _ (by cases a with | true => exact h2 Q q | false => exact q)
theorem evi_isneg (ha : EvI ta σ H i) : EvI (tCB (fun xs H Q => (∃ i, xs = [.int i] ∧ Q (.int i) H) ∨ ∃ k, xs = [.bl k] ∧ Q (.int (if k then 1 else 0)) H) (tCons (tOp (rI0 fun i j => .bl (decide (i < j))) ta (tC (.int 0))) tNil)) σ H (if decide (i < 0) then 1 else 0) := fun Q q =>
  ha _ ⟨i, 0, rfl, rfl, .inr ⟨_, rfl, q⟩⟩
theorem si_set {k : Nat} {D : Ends} (h : EvI te σ H i) (q : D.nx (σ.set k (some (.int i))) H) : tAsg te (gName k) D σ H := h _ q
theorem si_ret {D : Ends} (h : EvI te σ H i) (q : D.rt (.int i) H) : tRet te D σ H := h _ q
theorem si_if {D : Ends} {tu tw : TS} {b : Bool} (h : EvC t σ H b) (h1 : b = true → tu D σ H) (h2 : b = false → tw D σ H) : tIfS t tu tw D σ H := h _ (by cases b with | true => exact h1 rfl | false => exact h2 rfl)
/-- pen['x'] = e -/
theorem si_put {D : Ends} {k : Nat} {p : Addr} {x : Str} {kvs : List (Key × V)} (hv : σ[k]? = some (some (.ref p))) (hp : H p = some (.dK kvs)) (hz : kvs.length ≤ 10) (h : EvI te σ H i) (q : D.nx σ (upd H p (.dK (putK kvs (.inr x) (.int i))))) : sDPut (tVar k) (tC (.str x)) te D σ H :=
  h _ ⟨_, hv, p, _, rfl, DPut.k (k := Sum.inr x) hp (Evl.sz_lt (by omega)), q⟩
end
/-! ### the pen -/
def penK (cl : Addr) (a l : Int) : List (Key × V) := [(.inr "cells", .ref cl), (.inr "at", .int a), (.inr "left", .int l)]
theorem penK_cells (cl : Addr) (a l : Int) : valV (penK cl a l) (.inr "cells") = some (.ref cl) := rfl
theorem penK_at (cl : Addr) (a l : Int) : valV (penK cl a l) (.inr "at") = some (.int a) := rfl
theorem penK_left (cl : Addr) (a l : Int) : valV (penK cl a l) (.inr "left") = some (.int l) := rfl
theorem penK_putAt (cl : Addr) (a l b : Int) : putK (penK cl a l) (.inr "at") (.int b) = penK cl b l := rfl
theorem penK_putLeft (cl : Addr) (a l b : Int) : putK (penK cl a l) (.inr "left") (.int b) = penK cl a b := rfl
structure Pen (n : Nat) (H : Hp) (p cl : Addr) : Prop where
  ex : ∃ (ns : List Int) (a l : Int), H p = some (.dK (penK cl a l)) ∧ H cl = some (.lst (ns.map V.int)) ∧ ns.length ≤ 63 ∧ 0 ≤ a ∧ a ≤ n
/-- all but p as it was -/
def Exc (p : Addr) (H H' : Hp) : Prop := ∀ c o, c ≠ p → H c = some o → H' c = some o
theorem Pen.ex_ {n : Nat} {H H' : Hp} {p cl : Addr} (h : Pen n H p cl) (e : Ex H H') : Pen n H' p cl := by
  obtain ⟨ns, a, l, h1, h2, h3⟩ := h.ex
  exact ⟨ns, a, l, e _ _ h1, e _ _ h2, h3⟩
theorem Pen.mono {n m : Nat} {H : Hp} {p cl : Addr} (h : Pen n H p cl) (e : n ≤ m) : Pen m H p cl := by
  obtain ⟨ns, a, l, h1, h2, h3, h4, h5⟩ := h.ex
  exact ⟨ns, a, l, h1, h2, h3, h4, by omega⟩
def spDraw : Sp := fun vs H Q _ => ∃ (p cl : Addr) (many : Int) (n : Nat), vs = [.ref p, .int many] ∧ 1 ≤ many ∧ many ≤ 1000 ∧ Pen n H p cl ∧ n ≤ 10000 ∧
  ∀ (k : Int) (H' : Hp), 0 ≤ k → k < many → Pen (n + 1) H' p cl → Exc p H H' → Q (.int k) H'
section
variable {P : Program} {w : World} {K : PySem.W.Frag} {mg : Str → Option Value} {base : Heap} {f f1 f2 f3 f4 : Addr} {fd fd1 fd2 fd3 fd4 : FuncData} {nu : Nat → Str}
abbrev N_Ldraw : List Str := ["_law_pen_here", "_law_many_here", "_law_found", "_law_at", "_law_cell", "_law_whole", "_law_one", "_law_two_here"]
theorem sc_Ldraw : FnScope N_Ldraw ["_law_pen_here", "_law_many_here"] (defScope s_Ldraw) := ⟨rfl, rfl, rfl, by decide +kernel, rfl, by decide +kernel, by decide +kernel⟩
theorem p_abs {X : Cx} {e : Expr} {te : TE} {p pos : Pos} (B : Bi X.mg) (he : PE X e te) (hg : Gl X "abs" := by rfl) (h1 : starEach [e] X.env = (false, eval e X.env) :: starEach [] X.env := by rfl) : PE X (.Call (.Name "abs" p) [e] [] pos) (tCB (fun xs H Q => ∃ i, xs = [.int i] ∧ Q (.int (if i < 0 then -i else i)) H) (tCons te tNil)) :=
  pe_callB call_abs hg B.abs boot_abs (pa_cons he pa_nil h1) (by decide) (by decide) h1 rfl
theorem p_int {X : Cx} {e : Expr} {te : TE} {p pos : Pos} (B : Bi X.mg) (he : PE X e te) (hg : Gl X "int" := by rfl) (h1 : starEach [e] X.env = (false, eval e X.env) :: starEach [] X.env := by rfl) : PE X (.Call (.Name "int" p) [e] [] pos) (tCB (fun xs H Q => (∃ i, xs = [.int i] ∧ Q (.int i) H) ∨ ∃ k, xs = [.bl k] ∧ Q (.int (if k then 1 else 0)) H) (tCons te tNil)) :=
  pe_callTy call_int1 hg B.int PyProof.Rows.boot_int (pa_cons he pa_nil h1) (by decide) (by decide) h1 rfl
theorem dpAll_intsL {H : Hp} : ∀ ns : List Int, DpAll K H (ns.map V.int) (ns.map .int)
  | [] => .nil
  | i :: ns => .cons (.int i) (dpAll_intsL ns)
theorem shaped_ints (ns : List Int) : SeqAt.shaped (.list (ns.map .int)) = true ∧ nd (.list (ns.map .int)) = true := by
  have go : ∀ ns : List Int, PyData.canLayAll0 (ns.map .int) = true ∧ PyData.depthAll (ns.map .int) = 0 ∧ ndAll (ns.map .int) = true := by
    intro ns
    induction ns with
    | nil => exact ⟨by simp [PyData.canLayAll0], by simp [PyData.depthAll], by simp [ndAll]⟩
    | cons x ns ih => exact ⟨by simp [PyData.canLayAll0, PyData.canLay0, ih.1], by simp [PyData.depthAll, PyData.depth, ih.2.1], by simp [ndAll, nd, ih.2.2]⟩
  obtain ⟨a1, a2, a3⟩ := go ns
  unfold SeqAt.shaped
  rw [PyData.canLay0, PyData.depth, a1, a2, nd]
  exact ⟨by decide, a3⟩
theorem pos_bound {x m : Int} (hm : 0 < m) : 0 ≤ x % m ∧ x % m < m := ⟨Int.emod_nonneg x (by omega), Int.emod_lt_of_pos x hm⟩
theorem ok_Ldraw (F : FnP K "_law_draw" s_Ldraw f fd) (B : Bi mg) : FnOk P w K mg base CX0 1 f fd ["_law_pen_here", "_law_many_here"] spDraw := by
  refine F.ok sc_Ldraw (fun vs H Q E h => by obtain ⟨p, cl, many, n, rfl, _⟩ := h; rfl) (fun cdv A outer s H vs Q E hr h => ?_)
  obtain ⟨p, cl, many, n, rfl, m1, m2, ⟨ns, a, l, hp, hcl, hns, a0, a1⟩, hn, q⟩ := h
  have hu := hu_of hr
  refine ⟨_, PSs.nox (pss_cons (ps_if (pt_cmpR op_gt (pe_dget hu (pv 0) pe_str (fun _ _ => rfl)) pe_int (nomark _))
      (pss_cons (ps_set (i := 2) sc_Ldraw.nd rfl (Or.inl rfl) (pe_op op_mod (pe_dget hu (pv 0) pe_str (fun _ _ => rfl)) (pv 1)))
      (pss_cons (ps_dput hu (pv 0) pe_str (pe_op op_fdiv (pe_dget hu (pv 0) pe_str (fun _ _ => rfl)) (pv 1)) rfl) (pss_one (ps_ret (pv 2))))) pss_nil)
    (pss_cons (ps_set (i := 3) sc_Ldraw.nd rfl (Or.inl rfl) (pe_dget hu (pv 0) pe_str (fun _ _ => rfl)))
    (pss_cons (ps_dput hu (pv 0) pe_str (pe_op op_add (pv 3) pe_int) rfl)
    (pss_cons (ps_set (i := 4) sc_Ldraw.nd rfl (Or.inl rfl) (pe_op op_add (pe_op op_mul pe_int (pv 3)) pe_int))
    (pss_cons (ps_if (pt_cmpR (q_neD K hr.units) (pe_dget hu (pv 0) pe_str (fun _ _ => rfl)) (pe_lst pa_nil) (nomark _))
      (pss_one (ps_set (i := 4) sc_Ldraw.nd rfl (Or.inl rfl) (pe_ix (q_ixL K) (pe_dget hu (pv 0) pe_str (fun _ _ => rfl)) (pe_op op_mod (pv 3) (p_len K B (pe_dget hu (pv 0) pe_str (fun _ _ => rfl)))) (fun _ _ => rfl)))) pss_nil)
    (pss_cons (ps_if (PW.pt (pw_and (pt_cmpR op_lt (pv 3) (p_len K B (pe_dget hu (pv 0) pe_str (fun _ _ => rfl))) (nomark _)) (pw_and1 (pt_cmpR op_ge (p_abs B (pv 4)) (pe_op op_pow pe_int pe_int) (nomark _)))))
      (pss_cons (ps_set (i := 5) sc_Ldraw.nd rfl (Or.inl rfl) (pe_op op_add (pe_op op_mul pe_int (p_abs B (pv 4))) (p_int B (pe_cmpR op_lt (pv 4) pe_int (nomark _)))))
      (pss_cons (ps_dput hu (pv 0) pe_str (pe_op op_fdiv (pv 5) (pv 1)) rfl) (pss_one (ps_ret (pe_op op_mod (pv 5) (pv 1)))))) pss_nil)
    (pss_cons (ps_set (i := 6) sc_Ldraw.nd rfl (Or.inl rfl) (pe_op op_mod (pe_op op_pow (pe_op op_add (pe_op op_add (pe_op op_mod (pv 4) pe_int) (pe_op op_mul pe_int (pv 3))) pe_int) pe_int) pe_int))
    (pss_cons (ps_set (i := 7) sc_Ldraw.nd rfl (Or.inl rfl) (pe_op op_mod (pe_op op_pow (pe_op op_add (pe_op op_mul (pv 6) (pe_op op_add (pv 3) pe_int)) (pe_op op_mul (pe_op op_mul pe_int (pv 3)) (pv 3))) pe_int) pe_int))
    (pss_one (ps_ret (pe_op op_mod (pe_op op_fdiv (pv 7) pe_int) (pv 1)))))))))))), ?_⟩
  have hpc : p ≠ cl := fun z => by rw [z, hcl] at hp; cases hp
  have m0 : 0 < many := by omega
  have fin : ∀ (H' : Hp) (a' l' k : Int), H' p = some (.dK (penK cl a' l')) → 0 ≤ a' → a' ≤ (n : Int) + 1 → H' cl = some (.lst (ns.map V.int)) → Exc p H H' → 0 ≤ k → k < many → Q (.int k) H' := fun H' a' l' k h1 ha hb h2 h3 hk1 hk2 =>
    q k _ hk1 hk2 ⟨ns, a', l', h1, h2, hns, ha, by push_cast; omega⟩ h3
  have done : ∀ (H' : Hp) (a' l' k : Int), Exc p H H' → H' cl = some (.lst (ns.map V.int)) → 0 ≤ a' → a' ≤ (n : Int) + 1 → 0 ≤ k → k < many → Q (.int k) (upd H' p (.dK (penK cl a' l'))) := fun H' a' l' k he hc ha hb hk1 hk2 =>
    fin _ a' l' k upd_same ha hb (by rw [upd_ne (Ne.symm hpc)]; exact hc) (fun c o hc e => by rw [upd_ne hc]; exact he c o hc e) hk1 hk2
  have er : Exc p H H := fun c o _ e => e
  refine si_if (evc_gt (evi_get rfl hp (penK_left cl a l)) evi_int) (fun z => ?_) fun z => ?_
  · refine si_set (evi_mod (evi_get rfl hp (penK_left cl a l)) (evi_var rfl) m0) ?_
    refine si_put (p := p) rfl hp (by exact (by decide : 3 ≤ 10)) (evi_fdiv (evi_get rfl hp (penK_left cl a l)) (evi_var rfl) ⟨m0, by omega⟩) ?_
    rw [penK_putLeft]
    have := pos_bound (x := l) m0
    exact si_ret (evi_var rfl) (done H a _ _ er hcl a0 (by omega) this.1 this.2)
  refine si_set (evi_get rfl hp (penK_at cl a l)) ?_
  refine si_put (p := p) rfl hp (by exact (by decide : 3 ≤ 10)) (evi_add (evi_var rfl) evi_int) ?_
  rw [penK_putAt]
  have hp1 : upd H p (.dK (penK cl (a + 1) l)) p = some (.dK (penK cl (a + 1) l)) := upd_same
  have hcl1 : upd H p (.dK (penK cl (a + 1) l)) cl = some (.lst (ns.map V.int)) := by rw [upd_ne (Ne.symm hpc)]; exact hcl
  have he1 : Exc p H (upd H p (.dK (penK cl (a + 1) l))) := fun c o hc e => by rw [upd_ne hc]; exact e
  generalize upd H p (.dK (penK cl (a + 1) l)) = H1 at hp1 hcl1 he1
  have ca : CMul 2113 a := .inl ⟨by decide, by decide⟩
  refine si_set (evi_add (evi_mul evi_int (evi_var rfl) ca) evi_int) ?_
  -- the cells
  have rest : ∀ (cell : Int) (H1 : Hp), H1 p = some (.dK (penK cl (a + 1) l)) → H1 cl = some (.lst (ns.map V.int)) → Exc p H H1 → (tSeq (tIfS (tAnd (tTest (tOp (rI0 fun i j => .bl (decide (i < j))) (tVar 3) (tCB (rLenX K) (tCons (tDGet (tVar 0) (tC (.str "cells"))) tNil)))) (tTest (tOp (rI0 fun i j => .bl (decide (i ≥ j))) (tCB (fun xs H Q => ∃ i, xs = [.int i] ∧ Q (.int (if i < 0 then -i else i)) H) (tCons (tVar 4) tNil)) (tOp (rI CPow fun i j => .int (i ^ j.toNat)) (tC (.int 10)) (tC (.int 18))))))
      (tSeq (tAsg (tOp (rI0 fun i j => .int (i + j)) (tOp (rI CMul fun i j => .int (i * j)) (tC (.int 2)) (tCB (fun xs H Q => ∃ i, xs = [.int i] ∧ Q (.int (if i < 0 then -i else i)) H) (tCons (tVar 4) tNil))) (tCB (fun xs H Q => (∃ i, xs = [.int i] ∧ Q (.int i) H) ∨ ∃ k, xs = [.bl k] ∧ Q (.int (if k then 1 else 0)) H) (tCons (tOp (rI0 fun i j => .bl (decide (i < j))) (tVar 4) (tC (.int 0))) tNil))) (gName 5))
        (tSeq (sDPut (tVar 0) (tC (.str "left")) (tOp (rI CDiv fun i j => .int (i / j)) (tVar 5) (tVar 1))) (tRet (tOp (rI (fun _ j => 0 < j) fun i j => .int (i % j)) (tVar 5) (tVar 1))))) tNext)
      (tSeq (tAsg (tOp (rI (fun _ j => 0 < j) fun i j => .int (i % j)) (tOp (rI CPow fun i j => .int (i ^ j.toNat)) (tOp (rI0 fun i j => .int (i + j)) (tOp (rI0 fun i j => .int (i + j)) (tOp (rI (fun _ j => 0 < j) fun i j => .int (i % j)) (tVar 4) (tC (.int 2147483549))) (tOp (rI CMul fun i j => .int (i * j)) (tC (.int 73009)) (tVar 3))) (tC (.int 71))) (tC (.int 5))) (tC (.int 2147483647))) (gName 6))
      (tSeq (tAsg (tOp (rI (fun _ j => 0 < j) fun i j => .int (i % j)) (tOp (rI CPow fun i j => .int (i ^ j.toNat)) (tOp (rI0 fun i j => .int (i + j)) (tOp (rI CMul fun i j => .int (i * j)) (tVar 6) (tOp (rI0 fun i j => .int (i + j)) (tVar 3) (tC (.int 65557)))) (tOp (rI CMul fun i j => .int (i * j)) (tOp (rI CMul fun i j => .int (i * j)) (tC (.int 84991)) (tVar 3)) (tVar 3))) (tC (.int 3))) (tC (.int 2147483423))) (gName 7))
      (tRet (tOp (rI (fun _ j => 0 < j) fun i j => .int (i % j)) (tOp (rI CDiv fun i j => .int (i / j)) (tVar 7) (tC (.int 32))) (tVar 1))))))
      { nx := fun _ H' => Q .non H', rt := Q } [some (.ref p), some (.int many), none, some (.int a), some (.int cell), none, none, none] H1 := fun cell H1 hp1 hcl1 he1 => by
    have lenI2 : EvI (tCB (rLenX K) (tCons (tDGet (tVar 0) (tC (.str "cells"))) tNil)) [some (.ref p), some (.int many), none, some (.int a), some (.int cell), none, none, none] H1 (ns.length : Int) := fun Q2 q2 =>
      ⟨_, rfl, p, .ref cl, rfl, by have := DGet.k (k := Sum.inr "cells") hp1; rw [penK_cells] at this; exact this, .ref cl, ns.length, rfl, .inl ⟨_, .inl (.inl hcl1), by rw [List.length_map]⟩, q2⟩
    refine si_if (evc_and (evc_lt (evi_var rfl) lenI2) (evc_ge (evi_abs (evi_var rfl)) (evi_pow evi_int evi_int ⟨by decide, by decide, by decide⟩))) (fun z => ?_) fun z => ?_
    · refine si_set (evi_add (evi_mul evi_int (evi_abs (evi_var rfl)) (.inl ⟨by decide, by decide⟩)) (evi_isneg (evi_var rfl))) ?_
      generalize (2 * (if cell < 0 then -cell else cell) + if decide (cell < 0) = true then (1 : Int) else 0) = whole
      refine si_put (p := p) rfl hp1 (by exact (by decide : 3 ≤ 10)) (evi_fdiv (evi_var rfl) (evi_var rfl) ⟨m0, by omega⟩) ?_
      rw [penK_putLeft]
      have := pos_bound (x := whole) m0
      exact si_ret (evi_mod (evi_var rfl) (evi_var rfl) m0) (done H1 (a + 1) _ _ he1 hcl1 (by omega) (by omega) this.1 this.2)
    · have b1 := pos_bound (x := cell) (m := 2147483549) (by decide)
      refine si_set (evi_mod (evi_pow (evi_add (evi_add (evi_mod (evi_var rfl) evi_int (by decide)) (evi_mul evi_int (evi_var rfl) (.inl ⟨by decide, by decide⟩))) evi_int) evi_int ⟨by decide, by decide, by omega⟩) evi_int (by decide)) ?_
      have b2 := pos_bound (x := (cell % 2147483549 + 73009 * a + 71) ^ (5 : Int).toNat) (m := 2147483647) (by decide)
      generalize (cell % 2147483549 + 73009 * a + 71) ^ (5 : Int).toNat % 2147483647 = one at b2
      have c1 : 0 ≤ one * (a + 65557) ∧ one * (a + 65557) ≤ 2147483647 * 75557 := ⟨Int.mul_nonneg b2.1 (by omega), Int.mul_le_mul (by omega) (by omega) (by omega) (by decide)⟩
      have c2 : 0 ≤ 84991 * a * a ∧ 84991 * a * a ≤ 849910000 * 10000 := ⟨Int.mul_nonneg (by omega) a0, Int.mul_le_mul (by omega) (by omega) (by omega) (by decide)⟩
      refine si_set (evi_mod (evi_pow (evi_add (evi_mul (evi_var rfl) (evi_add (evi_var rfl) evi_int) (.inl ⟨by omega, by omega⟩)) (evi_mul (evi_mul evi_int (evi_var rfl) (.inl ⟨by decide, by decide⟩)) (evi_var rfl) (.inl ⟨by omega, by omega⟩))) evi_int ⟨by decide, by decide, by omega⟩) evi_int (by decide)) ?_
      have b3 := pos_bound (x := ((one * (a + 65557) + 84991 * a * a) ^ (3 : Int).toNat % 2147483423) / 32) m0
      exact si_ret (evi_mod (evi_fdiv (evi_var rfl) evi_int ⟨by decide, by decide⟩) (evi_var rfl) m0) (fin H1 (a + 1) l _ hp1 (by omega) (by omega) hcl1 he1 b3.1 b3.2)
  -- the cells are there or not
  have getC : ∀ {H2 : Hp}, H2 p = some (.dK (penK cl (a + 1) l)) → DGet H2 p (.str "cells") (some (.ref cl)) := fun h => by
    have := DGet.k (k := Sum.inr "cells") h
    rw [penK_cells] at this
    exact this
  refine ⟨_, rfl, p, .ref cl, rfl, getC hp1, Nat.zero_le _, fun p2 hp2 => ?_⟩
  have e2 : Ex H1 (upd H1 p2 (.lst [])) := Evl.Ex.new hp2
  have hp3 := e2 _ _ hp1
  have hcl3 := e2 _ _ hcl1
  have he3 : Exc p H (upd H1 p2 (.lst [])) := fun c o hc e => e2 _ _ (he1 c o hc e)
  have d1 : Dp K (upd H1 p2 (.lst [])) (.ref p2) (.list []) := .lst (.inl (.inl upd_same)) .nil
  have d2 : Dp K (upd H1 p2 (.lst [])) (.ref cl) (.list (ns.map .int)) := .lst (.inl (.inl hcl3)) (dpAll_intsL ns)
  have sh := shaped_ints ns
  refine ⟨.list (ns.map .int), .list [], dp_l2 _ _ sh.2 d2, dp_l2 _ _ (by decide) d1, sh.1, by decide, _, rfl, ?_⟩
  generalize upd H1 p2 (.lst []) = H2 at hp3 hcl3 he3
  refine ite2 (fun z => ?_) fun z => ?_
  · have hne : 0 < ns.length := by
      cases ns with
      | nil => simp [PyData.eqv, PyData.eqvAll] at z
      | cons x y => simp
    have hb := pos_bound (x := a) (m := (ns.length : Int)) (by omega)
    have hj : (a % (ns.length : Int)).toNat < ns.length := by omega
    refine ⟨_, rfl, p, .ref cl, rfl, getC hp3, _, rfl, _, rfl, p, .ref cl, rfl, getC hp3, .ref cl, ns.length, rfl, .inl ⟨_, .inl (.inl hcl3), by rw [List.length_map]⟩, a, ns.length, rfl, rfl, by omega, cl, ns.map V.int, a % ns.length, .int ns[(a % (ns.length : Int)).toNat], rfl, rfl, .inl (.inl hcl3), ?_, rest _ H2 hp3 hcl3 he3⟩
    exact atI_map V.int (xs := ns) (j := (a % (ns.length : Int)).toNat) (List.getElem?_eq_getElem hj) (by omega)
  · exact rest _ H2 hp3 hcl3 he3
end
end Jt

set_option Elab.async false
set_option linter.all false
set_option maxRecDepth 100000
set_option maxHeartbeats 1000000
/-! The law's pen, least, fork. -/
namespace Jt
open PySem PySem.Spec PyProof.Rows L2 PySem.W
section
variable {P : Program} {w : World} {K : PySem.W.Frag} {mg : Str → Option Value} {base : Heap} {f f1 f2 f3 f4 : Addr} {fd fd1 fd2 fd3 fd4 : FuncData} {nu : Nat → Str}
theorem q_slL (K : PySem.W.Frag) {X : Cx} (hK : X.K = K := by rfl) : SlR X (rSlL K) := by
  subst hK; exact sl_list
/-! _law_pen -/
def spPen (K : PySem.W.Frag) : Sp := fun vs H Q _ => ∃ (a : Addr) (ns : List Int), vs = [.ref a] ∧ SqL K H a (ns.map V.int) ∧ ∀ (p cl : Addr) (H' : Hp), H p = none → Ex H H' → Pen 0 H' p cl → Q (.ref p) H'
theorem sc_Lpen : FnScope ["_law_script"] ["_law_script"] (defScope s_Lpen) := ⟨rfl, rfl, rfl, by decide +kernel, rfl, by decide +kernel, by decide +kernel⟩
theorem ok_Lpen (F : FnP K "_law_pen" s_Lpen f fd) (B : Bi mg) : FnOk P w K mg base CX0 1 f fd ["_law_script"] (spPen K) := by
  refine F.ok sc_Lpen (fun vs H Q E h => by obtain ⟨a, ns, rfl, _⟩ := h; rfl) (fun cdv A outer s H vs Q E hr h => ?_)
  obtain ⟨a, ns, rfl, hs, q⟩ := h
  refine ⟨_, PSs.nox (pss_one (ps_ret (pe_disp (pps_cons pe_str (p_list K B (pe_slice (q_slL K) (pv 0) po_none (po_some pe_int))) (pps_cons pe_str pe_int (pps_cons pe_str pe_int pps_nil))) (by rfl) rfl (by simp) (by decide)))), ?_⟩
  refine fun p hp => ?_
  have e1 : Ex H (upd H p (.dK [])) := Evl.Ex.new hp
  have hp1 : upd H p (.dK []) p = some (.dK []) := upd_same
  have hs1 := Evl.ex_l e1 hs
  generalize upd H p (.dK []) = H1 at e1 hp1 hs1
  refine ⟨_, rfl, 63, rfl, a, ns.map V.int, rfl, hs1, fun p2 hp2 => ?_⟩
  have e2 : Ex H1 (upd H1 p2 (.lst (cutV (ns.map V.int) none (some 63)))) := Evl.Ex.new hp2
  have hp2s : upd H1 p2 (.lst (cutV (ns.map V.int) none (some 63))) p2 = some (.lst (cutV (ns.map V.int) none (some 63))) := upd_same
  generalize upd H1 p2 (.lst (cutV (ns.map V.int) none (some 63))) = H2 at e2 hp2s
  refine ⟨p2, _, rfl, .inl (.inl (.inl hp2s)), fun cl hcl => ?_⟩
  have e3 : Ex H2 (upd H2 cl (.lst (cutV (ns.map V.int) none (some 63)))) := Evl.Ex.new hcl
  have hcls : upd H2 cl (.lst (cutV (ns.map V.int) none (some 63))) cl = some (.lst (cutV (ns.map V.int) none (some 63))) := upd_same
  have hp3 := e3 _ _ (e2 _ _ hp1)
  have e13 := (e1.trans e2).trans e3
  have hclp : cl ≠ p := fun z => by rw [z] at hcl; rw [e2 _ _ hp1] at hcl; cases hcl
  generalize upd H2 cl (.lst (cutV (ns.map V.int) none (some 63))) = H3 at e3 hcls hp3 e13
  refine ⟨hp3, [(.inr "cells", .ref cl), (.inr "at", .int 0), (.inr "left", .int 0)], rfl, (by decide : 3 ≤ 15), ?_⟩
  have ec : cutV (ns.map V.int) none (some 63) = (ns.take 63).map V.int := by
    unfold cutV
    rw [HT.sIx_none]
    have := HT.sIx_nat (ns.map V.int).length (ns.map V.int).length 63
    rw [show ((63 : Int)) = ((63 : Nat) : Int) from rfl, this, List.drop_zero, List.length_map, List.map_take]
    rcases Nat.le_total 63 ns.length with z | z
    · rw [Nat.min_eq_left z]
    · rw [Nat.min_eq_right z]
      have h1 : (ns.map V.int).length ≤ ns.length := by rw [List.length_map]; exact Nat.le_refl _
      rw [List.take_of_length_le (by rw [List.length_map]; omega), List.take_of_length_le (by rw [List.length_map]; omega)]
  rw [ec] at hcls
  refine q p cl _ hp (Evl.Ex.mut e13 hp) ⟨ns.take 63, 0, 0, upd_same, by rw [upd_ne hclp]; exact hcls, List.length_take_le _ _, Int.le_refl 0, by decide⟩
/-! _law_least -/
theorem sc_Lleast : FnScope ["_law_tree_here"] ["_law_tree_here"] (defScope s_Lleast) := ⟨rfl, rfl, rfl, by decide +kernel, rfl, by decide +kernel, by decide +kernel⟩
theorem ok_Lleast (F : FnP K "_law_least" s_Lleast f fd) (B : Bi mg) : FnOk P w K mg base CX0 1 f fd ["_law_tree_here"] (spFirst K nu) := by
  refine F.ok sc_Lleast (fun vs H Q E h => sp_len h fun _ => rfl) (fun cdv A outer s H vs Q E hr h => ?_)
  obtain ⟨t, Hb, ho, e, hv, q⟩ := h
  refine ⟨_, PSs.nox (pss_cons (ps_while PassesOwn.never (pt_not (pt_val (p_isS K B (pv 0)))) (pss_one (ps_set (i := 0) sc_Lleast.nd rfl (Or.inl rfl) (pe_ix (q_ixT K) (pv 0) pe_int (fun _ _ => rfl))))) (pss_one (ps_ret (pv 0)))), ?_⟩
  obtain ⟨v, rfl, h1⟩ := dp1 hv
  refine sd_while (Hb := Hb) (fun m σ' Hc H' => ∃ t' v', σ' = [some v'] ∧ Dp K Hc v' (treeD nu t') ∧ firstT t' = firstT t ∧ m = depthT t' ∧ Kn Hb H Hc H') (depthT t) ⟨t, v, rfl, h1, rfl, rfl, Kn.refl e⟩ (fun m σ' Hc H' ⟨_, _, _, _, _, _, k⟩ => k.sub) ?_
  rintro m σ' Hc H' ⟨t', v', rfl, hd, hf, rfl, k⟩
  cases t' with
  | leaf i =>
    refine ⟨false, evt_is (evt_not (evt_B (rcd_isi (r := true) (evd_var rfl hd) rfl))) rfl, fun z => Bool.noConfusion z, fun _ H1 e1 => ?_⟩
    refine sd_ret (K := K) (Hb := Hc) (evd_var (d := nmD nu i) rfl hd) (k.sub.trans e1) fun v2 Hb' H2 k2 hv2 => q v2 Hb' H2 ?_ ?_
    · exact k.trans (kn_up e1 k2)
    · show Dp K Hb' v2 (nmD nu (firstT t))
      rw [← hf]; exact hv2
  | fork l r =>
    refine ⟨true, evt_is (evt_not (evt_B (rcd_isi (evd_var (d := .tuple [treeD nu l, treeD nu r]) rfl hd) isi_tS))) rfl, fun _ H1 e1 => ?_, fun z => Bool.noConfusion z⟩
    refine sd_set (K := K) (Hb := Hc) (d := treeD nu l) (evd_op (evd_var (d := .tuple [treeD nu l, treeD nu r]) rfl hd) evd_int (rd_ixT rfl)) (k.sub.trans e1) fun v2 Hb' H2 k2 hv2 => ⟨_, Hb', ?_, l, v2, rfl, hv2, hf, rfl, k.trans (kn_up e1 k2)⟩
    show depthT l < max (depthT l) (depthT r) + 1
    omega
/-! comprehensions with a pair as target -/
theorem q_gtup (K : PySem.W.Frag) {X : Cx} {i j : Nat} {x y : Str} {px py pos : Pos} {k : Nat} (hc : X.calm = true) (hN : X.N.Nodup) (hi : X.N[i]? = some x) (hj : X.N[j]? = some y) (hK : X.K = K) (hx : Loc X.env.scope x) (hfx : X.fn x = true ∨ X.env.scope.names.lookup x = some .local)
    (hy : Loc X.env.scope y) (hfy : X.fn y = true ∨ X.env.scope.names.lookup y = some .local) (hn : (assignEach [.Name x px, .Name y py] X.env).length = 2) (hst : (assignEach [.Name x px, .Name y py] X.env).findIdx? (·.1) = none) :
    PG X (.Tuple [.Name x px, .Name y py] k pos) (gTup K 2 (gCons (gName i) (gCons (gName j) gNil))) := by
  subst hK
  exact pg_tup hc (pgs_cons (pg_name (i := i) hN hi hx hfx) (pgs_cons (pg_name (i := j) hN hj hy hfy) pgs_nil)) hn hst
theorem p_lcU {X : Cx} (K : PySem.W.Frag) {elt iter : Expr} {te : TE} {x y : Str} {px py tpos pos : Pos} {kk : Nat} {i j : Nat} {scope : Scope} {own : List (Str × Nat)} {wi : TI} (hc : X.calm = true) (hN : X.N.Nodup) (hi : X.N[i]? = some x) (hj : X.N[j]? = some y) (hw : PI X (.Tuple [.Name x px, .Name y py] kk tpos) iter wi) (ok : BlkOk X.N X.env.scope scope own)
    (he : ∀ (s : Shared) (H : Hp) (C : Addr) (cl : List (Str × Addr)) (fp : List Addr), PE (X.blk s H scope (compEnvC scope cl C X.env) fp) elt te)
    (hK : ∀ (s : Shared) (H : Hp) (C : Addr) (cl : List (Str × Addr)) (fp : List Addr), (X.blk s H scope (compEnvC scope cl C X.env) fp).K = K := by exact fun _ _ _ _ _ => rfl)
    (hx : ∀ (s : Shared) (H : Hp) (C : Addr) (cl : List (Str × Addr)) (fp : List Addr), Loc (X.blk s H scope (compEnvC scope cl C X.env) fp).env.scope x := by exact fun _ _ _ _ _ => by first | exact Or.inl rfl | exact Or.inr rfl)
    (hfx : ∀ (s : Shared) (H : Hp) (C : Addr) (cl : List (Str × Addr)) (fp : List Addr), (X.blk s H scope (compEnvC scope cl C X.env) fp).fn x = true ∨ (X.blk s H scope (compEnvC scope cl C X.env) fp).env.scope.names.lookup x = some .local := by exact fun _ _ _ _ _ => by first | exact .inl rfl | exact .inr rfl)
    (hy : ∀ (s : Shared) (H : Hp) (C : Addr) (cl : List (Str × Addr)) (fp : List Addr), Loc (X.blk s H scope (compEnvC scope cl C X.env) fp).env.scope y := by exact fun _ _ _ _ _ => by first | exact Or.inl rfl | exact Or.inr rfl)
    (hfy : ∀ (s : Shared) (H : Hp) (C : Addr) (cl : List (Str × Addr)) (fp : List Addr), (X.blk s H scope (compEnvC scope cl C X.env) fp).fn y = true ∨ (X.blk s H scope (compEnvC scope cl C X.env) fp).env.scope.names.lookup y = some .local := by exact fun _ _ _ _ _ => by first | exact .inl rfl | exact .inr rfl)
    (hn : ∀ (s : Shared) (H : Hp) (C : Addr) (cl : List (Str × Addr)) (fp : List Addr), (assignEach [.Name x px, .Name y py] (X.blk s H scope (compEnvC scope cl C X.env) fp).env).length = 2 := by exact fun _ _ _ _ _ => rfl)
    (hst : ∀ (s : Shared) (H : Hp) (C : Addr) (cl : List (Str × Addr)) (fp : List Addr), (assignEach [.Name x px, .Name y py] (X.blk s H scope (compEnvC scope cl C X.env) fp).env).findIdx? (·.1) = none := by exact fun _ _ _ _ _ => rfl)
    (hs : ∀ x, foldedSetIterable iter X.env x = pure x := by intro _; rfl) :
    PE X (.ListComp elt [⟨.Tuple [.Name x px, .Name y py] kk tpos, iter, [], 0⟩] scope pos) (tLc wi (gTup K 2 (gCons (gName i) (gCons (gName j) gNil))) tYes te (own.map (·.2))) :=
  pe_lc hc hN hw ok (fun s H C cl fp => q_gtup K hc hN hi hj (hK s H C cl fp) (hx s H C cl fp) (hfx s H C cl fp) (hy s H C cl fp) (hfy s H C cl fp) (hn s H C cl fp) (hst s H C cl fp)) (fun _ _ _ _ _ => pts_nil) he hs
/-- [e for x, y in pairs] -/
theorem evb_lcU {σ : L2.St} {Hb : Hp} {te : TE} {wi : TI} {β : Type} {bs : List β} {e1 e2 : β → PyData} {vs : List Nat} {i j : Nat} (g : β → PyData) (h : WaD K wi σ Hb (bs.map fun b => .tuple [e1 b, e2 b])) (hz : bs.length ≤ 40000) (hw : ∀ x y, wipe (((wipe σ vs).set i (some x)).set j (some y)) vs = wipe σ vs)
    (he : ∀ d, d ∈ bs → ∀ u v Hc, Ex Hb Hc → Dp K Hc u (e1 d) → Dp K Hc v (e2 d) → EvD K te (((wipe σ vs).set i (some u)).set j (some v)) Hc (g d)) : EvN K (tLc wi (gTup K 2 (gCons (gName i) (gCons (gName j) gNil))) tYes te vs) σ Hb (bs.map g) := fun H e Q q => h H e _ fun J xs H1 H2 k0 hxs G D hD => by
  have hl : xs.length = bs.length := by rw [dpAll_len hxs, List.length_map]
  refine ⟨fun n m H' => m = bs.length - n ∧ n ≤ bs.length ∧ Cw K H1 H2 D H' ((bs.take n).map g), ⟨bs.length, by simp, Nat.zero_le _, Cw.start k0.sub hD⟩, ?_⟩
  rintro n m H' ⟨rfl, hn, Hc, acc, k, nn, hd, ha⟩
  obtain ⟨G1, G2, G3⟩ := G n H' (k.bas.trans k.sub)
  by_cases hlt : n < bs.length
  · have hlt' : n < xs.length := by omega
    refine .inr ⟨G1 hlt', fun H' => Cw K H1 H2 D H' ((bs.take (n + 1)).map g), fun H3 p => ⟨bs.length - (n + 1), by omega, rfl, hlt, p⟩, fun x H3 y => ?_⟩
    obtain ⟨e3, hx⟩ := G3 x H3 y hlt'
    subst e3
    obtain ⟨d, hdd, hdx⟩ := dpAll_getB hxs hx
    have hm := List.mem_of_getElem? hdd
    have ee : Ex Hb Hc := k0.bas.trans k.bas
    have dx := dp_mono k.bas _ x hdx
    cases dx with
    | @tup a ys _ hta hty =>
      obtain ⟨u, v, rfl, hu, hv⟩ := dp2 hty
      refine ⟨a, [u, v], rfl, SqT.of (k.sub _ _ hta), rfl, u, [v], rfl, v, [], rfl, rfl, hw u v, ?_⟩
      refine he d hm u v Hc ee hu hv _ k.sub _ fun y Hd H5 k5 hy => ?_
      obtain ⟨c5, w⟩ := Cw.push hD k nn hd ha k5 hy
      refine ⟨acc, c5, ?_, ?_⟩
      · have h1 := dpAll_len ha
        rw [List.length_map] at h1
        have h2 := List.length_take_le n bs
        exact Evl.sz_lt (by omega)
      · rw [List.take_add_one, hdd]
        simpa using w
  · have e2 : n = bs.length := by omega
    subst e2
    refine .inl ⟨G2 (by omega), ?_⟩
    rw [List.take_length] at ha
    exact q D acc Hc H' (k0.trans k) (none_back k0.cur hD) nn hd ha
/-- [e for k, x in enumerate(xs)] -/
theorem evb_lcE {σ : L2.St} {Hb : Hp} {te tl : TE} {β : Type} {bs : List β} {enc : β → PyData} {vs : List Nat} {i j : Nat} (g : Nat → β → PyData) (h : EvD K tl σ Hb (.list (bs.map enc))) (hz : bs.length ≤ 40000) (hw : ∀ x y, wipe (((wipe σ vs).set i (some x)).set j (some y)) vs = wipe σ vs)
    (he : ∀ (n : Nat) d, bs[n]? = some d → ∀ v Hc, Ex Hb Hc → Dp K Hc v (enc d) → EvD K te (((wipe σ vs).set i (some (.int n))).set j (some v)) Hc (g n d)) : EvN K (tLc (iEnum K (tCons tl tNil)) (gTup K 2 (gCons (gName i) (gCons (gName j) gNil))) tYes te vs) σ Hb (bs.mapIdx g) := fun H e Q q => h H e _ fun v H1 H2 k0 hv => by
  cases hv with
  | @lst a xs _ hs hxs =>
  have hl : xs.length = bs.length := by rw [dpAll_len hxs, List.length_map]
  refine ⟨a, xs, rfl, Evl.ex_l k0.sub hs, fun D hD => ?_⟩
  refine ⟨fun n m H' => m = bs.length - n ∧ n ≤ bs.length ∧ Cw K H1 H2 D H' ((bs.take n).mapIdx g), ⟨bs.length, by simp, Nat.zero_le _, Cw.start k0.sub hD⟩, ?_⟩
  rintro n m H' ⟨rfl, hn, Hc, acc, k, nn, hd, ha⟩
  have st : SqL K H' a xs := Evl.ex_l (k.bas.trans k.sub) hs
  by_cases hlt : n < bs.length
  · have hlt' : n < xs.length := by omega
    refine .inr ⟨⟨xs, xs[n], st, List.getElem?_eq_getElem hlt'⟩, fun H' => Cw K H1 H2 D H' ((bs.take (n + 1)).mapIdx g), fun H3 p => ⟨bs.length - (n + 1), by omega, rfl, hlt, p⟩, fun x H3 y => ?_⟩
    obtain ⟨T, z, rfl, nT, rfl, hz2⟩ := y
    have hxz := hz2 xs st
    obtain ⟨d, hdd, hdx⟩ := dpAll_getB hxs hxz
    have ee : Ex Hb Hc := k0.bas.trans k.bas
    have dx := dp_mono k.bas _ z hdx
    have kT : Kn H1 H2 Hc (upd H' T (.tup [.int (n : Nat), z])) := k.trans (Kn.mut k.sub nT)
    have hd2 : upd H' T (.tup [.int (n : Nat), z]) D = some (.lst acc) := by rw [upd_ne (ne_of_none hd nT)]; exact hd
    refine ⟨T, [.int (n : Nat), z], rfl, SqT.of upd_same, rfl, .int (n : Nat), [z], rfl, z, [], rfl, rfl, hw _ _, ?_⟩
    refine he n d hdd z Hc ee dx _ kT.sub _ fun y Hd H5 k5 hy => ?_
    obtain ⟨c5, w⟩ := Cw.push hD kT nn hd2 ha k5 hy
    refine ⟨acc, c5, ?_, ?_⟩
    · have h1 := dpAll_len ha
      rw [List.length_mapIdx] at h1
      have h2 := List.length_take_le n bs
      exact Evl.sz_lt (by omega)
    · rw [List.take_add_one, hdd]
      have hlen : (bs.take n).length = n := by rw [List.length_take]; omega
      simpa [List.mapIdx_append, hlen] using w
  · have e2 : n = bs.length := by omega
    subst e2
    refine .inl ⟨⟨xs, st, by omega⟩, ?_⟩
    rw [List.take_length] at ha
    exact q D acc Hc H' (k0.trans k) (none_back k0.cur hD) nn hd ha
theorem q_enum (K : PySem.W.Frag) {X : Cx} {e : Expr} {te : TE} {p pos tpos : Pos} {elts : List Expr} {kk : Nat} (B : Bi X.mg) (he : PE X e te) (hK : X.K = K := by rfl) (hg : Gl X "enumerate" := by rfl) (h1 : starEach [e] X.env = (false, eval e X.env) :: starEach [] X.env := by rfl) (hs : starEach [e] X.env = [(false, eval e X.env)] := by rfl) :
    PI X (.Tuple elts kk tpos) (.Call (.Name "enumerate" p) [e] [] pos) (iEnum K (tCons te tNil)) := by
  subst hK
  exact pi_enum hg B.enumerate (pa_cons he pa_nil h1) hs
/-! _law_fork -/
abbrev N_Lfork : List Str := ["_law_parts", "_law_order", "_law_k", "_law_part", "_law_least_here"]
theorem sc_Lfork : FnScope N_Lfork ["_law_parts"] (defScope s_Lfork) := ⟨rfl, rfl, rfl, by decide +kernel, rfl, by decide +kernel, by decide +kernel⟩
abbrev ordD (nu : Nat → Str) (q : Nat × Nat) : PyData := .tuple [nmD nu q.1, .int (q.2 : Nat)]
theorem ord_lt (N : Nu nu) (a b : Nat) : dataLt (ordD nu (a, 1)) (ordD nu (b, 0)) = Nat.blt a b := by
  show dataLt (.tuple [.str (nu a), .int (1 : Nat)]) (.tuple [.str (nu b), .int (0 : Nat)]) = _
  rw [dataLt_pair (by simp [alike]) (by simp [alike]), N.mono.dlt, dataLt_int]
  have e1 : PyData.eqv (.str (nu a)) (.str (nu b)) = (a == b) := by rw [PyData.eqv]; exact N.mono.beq a b
  simp only [e1, PyData.eqv]
  rw [Bool.eq_iff_iff, Nat.blt_eq]
  by_cases h : a = b
  · subst h; simp
  · have h2 : ¬ nu a = nu b := fun z => h (N.mono.inj z)
    simp [h, h2]
theorem ok_Lfork (N : Nu nu) (F : FnP K "_law_fork" s_Lfork f fd) (B : Bi mg) (K1 : Kept P w K mg base "_law_least" 1 ["_law_tree_here"] (spFirst K nu) f1 fd1) : FnOk P w K mg base CX0 2 f fd ["_law_parts"] (spForkOf K nu) := by
  refine F.ok sc_Lfork (fun vs H Q E h => sp_len h fun _ => rfl) (fun cdv A outer s H vs Q E hr h => ?_)
  obtain ⟨ps, Hb, ho, e, hv, q⟩ := h
  refine ⟨_, PSs.nox (pss_cons (ps_if (pt_cmpR op_eq (p_len K B (pv 0)) pe_int (nomark _)) (pss_one (ps_ret (pe_ix (q_ixL K) (pv 0) pe_int (fun _ _ => rfl)))) pss_nil)
    (pss_cons (ps_set (i := 1) sc_Lfork.nd rfl (Or.inl rfl) (p_sorted K B hr.units (p_lcU K (own := [("_law_k", 2), ("_law_part", 3)]) (i := 2) (j := 3) rfl sc_Lfork.nd rfl rfl (q_enum K B (pv 0)) (blkOk_by (N := N_Lfork) (sc := defScope s_Lfork) (by decide +kernel))
      (fun _ _ _ _ _ => pe_tup (pa_cons (p_call K1 hr (pa_cons (pv 3) pa_nil)) (pa_cons (pv 2) pa_nil))))))
    (pss_one (ps_ret (p_tuple K B (p_lcU K (own := [("_law_least_here", 4), ("_law_k", 2)]) (i := 4) (j := 2) rfl sc_Lfork.nd rfl rfl (q_list K (pv 1)) (blkOk_by (N := N_Lfork) (sc := defScope s_Lfork) (by decide +kernel))
      (fun _ _ _ _ _ => pe_ix (q_ixL K) (pv 0) (pv 2) (fun _ _ => rfl)))))))), ?_⟩
  obtain ⟨v, rfl, h1⟩ := dp1 hv
  obtain ⟨a, rfl | ⟨b, rfl⟩⟩ := ho
  · refine sd_if (Hb := Hb) (evt_test (evd_op (e_len (n := 1) (evd_var (d := .list [treeD nu a]) rfl h1) rfl (by decide)) evd_int rd_eqI)) e (fun _ H1 e1 => ?_) fun z => Bool.noConfusion z
    exact sd_ret (evd_op (evd_var (d := .list [treeD nu a]) rfl h1) evd_int (rd_ixL rfl)) (e.trans e1) fun v Hb' H' k hv => q v Hb' H' (kn_up e1 k) hv
  · refine sd_if (Hb := Hb) (evt_test (evd_op (e_len (n := 2) (evd_var (d := .list [treeD nu a, treeD nu b]) rfl h1) rfl (by decide)) evd_int rd_eqI)) e (fun z => Bool.noConfusion z) fun _ H1 e1 => ?_
    have hsort : (([a, b].mapIdx fun n t => ordD nu (firstT t, n)).mergeSort (dataLe false id)) = ((cond (Nat.blt (firstT b) (firstT a)) [(firstT b, 1), (firstT a, 0)] [(firstT a, 0), (firstT b, 1)]).map fun q => ordD nu q) := by
      show [ordD nu (firstT a, 0), ordD nu (firstT b, 1)].mergeSort (dataLe false id) = _
      rw [sort_two]
      have e5 : dataLe false id (ordD nu (firstT a, 0)) (ordD nu (firstT b, 1)) = !Nat.blt (firstT b) (firstT a) := by
        show (!dataLt (ordD nu (firstT b, 1)) (ordD nu (firstT a, 0))) = _
        rw [ord_lt N]
      rw [e5]
      cases Nat.blt (firstT b) (firstT a) <;> rfl
    dsimp only [tNext]
    refine sd_set (K := K) (Hb := Hb) (d := .list ((cond (Nat.blt (firstT b) (firstT a)) [(firstT b, 1), (firstT a, 0)] [(firstT a, 0), (firstT b, 1)]).map fun q => ordD nu q)) (evd_is (e_sort (evb_lcE (bs := [a, b]) (enc := treeD nu) (fun n t => ordD nu (firstT t, n)) (evd_var rfl h1) (by exact (by decide : 2 ≤ 40000)) (fun _ _ => rfl) fun n d hd v2 Hc e3 h3 => ?g1).asD ?g2 ?g3 ?g4).asD (congrArg PyData.list hsort)) (e.trans e1) fun vo Hc Hd k1 ho => ?_
    case g1 => exact evd_tup (eva_cons (evd_call (eva_cons (evd_var rfl h3) eva_nil) d trivial rfl) (eva_cons (evd_var rfl (.int (n : Nat))) eva_nil)) (by exact (by decide : 2 ≤ 100000))
    case g2 =>
      show AllAlike ([(firstT a, 0), (firstT b, 1)].map fun q => ordD nu q)
      exact AllAlike.of fun b b' => by simp [alike, alikeAll]
    case g3 =>
      show Sortable ([(firstT a, 0), (firstT b, 1)].map fun q => ordD nu q)
      exact Sortable.tuples fun b => ⟨_, _, rfl⟩
    case g4 =>
      intro d hd
      have hd' : d ∈ [(firstT a, 0), (firstT b, 1)].map fun q => ordD nu q := hd
      obtain ⟨q0, _, rfl⟩ := List.mem_map.mp hd'
      exact ⟨by simp [PyData.depth, PyData.depthAll], by simp [nd, ndAll]⟩
    refine sd_ret (K := K) (Hb := Hc) (evd_is (e_tup (evb_lcU (bs := cond (Nat.blt (firstT b) (firstT a)) [(firstT b, 1), (firstT a, 0)] [(firstT a, 0), (firstT b, 1)]) (e1 := fun q : Nat × Nat => nmD nu q.1) (e2 := fun q : Nat × Nat => .int (q.2 : Nat)) (fun q => treeD nu (cond (Nat.beq q.2 0) a b)) (wad_list (evd_var rfl ho)) ?c1 (fun _ _ => rfl) fun d hd u v2 Hc2 e3 hu hv2 => ?c2).asD) ?c3) k1.sub fun v Hb' H' k hv => q v Hb' H' (kn_up e1 (k1.trans k)) hv
    case c1 => cases Nat.blt (firstT b) (firstT a) <;> exact (by decide : 2 ≤ 40000)
    case c2 =>
      have hq : d.2 = 0 ∨ d.2 = 1 := by
        cases hb : Nat.blt (firstT b) (firstT a) <;> rw [hb] at hd <;> rcases List.mem_cons.mp hd with z | z
        · exact .inl (by rw [z])
        · exact .inr (by rw [List.mem_singleton.mp z])
        · exact .inr (by rw [z])
        · exact .inl (by rw [List.mem_singleton.mp z])
      refine evd_op (evd_var (d := .list ([a, b].map (treeD nu))) rfl (dp_mono (k1.bas.trans e3) _ _ h1)) (evd_var rfl hv2) (rd_ixL ?_)
      rcases hq with z | z
      · rw [z]; exact atI_map (treeD nu) (xs := [a, b]) (j := 0) rfl rfl
      · rw [z]; exact atI_map (treeD nu) (xs := [a, b]) (j := 1) rfl rfl
    case c3 =>
      show _ = treeD nu (forkN a b)
      unfold forkN
      cases Nat.blt (firstT b) (firstT a) <;> rfl
end
end Jt

set_option Elab.async false
set_option linter.all false
set_option maxRecDepth 100000
set_option maxHeartbeats 1000000
/-! The law's below, to, beside, named, hung. -/
namespace Jt
open PySem PySem.Spec PyProof.Rows L2 PySem.W
def sizeT : T → Nat
  | .leaf _ => 1
  | .fork l r => sizeT l + sizeT r + 1
def sizesT : List T → Nat
  | [] => 0
  | t :: r => sizeT t + sizesT r
theorem sizes_app : ∀ a b : List T, sizesT (a ++ b) = sizesT a + sizesT b
  | [], b => by show _ = 0 + _; rw [Nat.zero_add]; rfl
  | t :: a, b => by
    show sizeT t + sizesT (a ++ b) = sizeT t + sizesT a + sizesT b
    rw [sizes_app a b]; omega
theorem sortN_perm_eq {a b : List Nat} (h : a.Perm b) : sortN a = sortN b := by
  rw [← sortN_eq b]
  exact Srt.the_of_perm leN leN_trans leN_total (fun x y h1 h2 => Nat.le_antisymm (of_decide_eq_true h1) (of_decide_eq_true h2)) ((sortN_perm a).trans h) (sortN_sorted a)
def besideT (i : Nat) (k : T) : T → T
  | .leaf j => cond (Nat.beq j i) (forkN (.leaf j) k) (.leaf j)
  | .fork l r => forkN (besideT i k l) (besideT i k r)
def hungT (i : Nat) (k : T) : T → T
  | .leaf j => cond (Nat.beq j i) k (.leaf j)
  | .fork l r => forkN (hungT i k l) (hungT i k r)
def reT : T → T
  | .leaf j => .leaf j
  | .fork l r => forkN (reT l) (reT r)
section
variable {P : Program} {w : World} {K : PySem.W.Frag} {mg : Str → Option Value} {base : Heap} {f f1 f2 f3 f4 : Addr} {fd fd1 fd2 fd3 fd4 : FuncData} {nu : Nat → Str}
/-! _law_below -/
abbrev spBelowL (K : PySem.W.Frag) (nu : Nat → Str) : Sp := spD K (fun t : T => (leaves t).length ≤ 100 ∧ depthT t ≤ 50) (fun t => [treeD nu t]) fun t => lotN nu (namesT t)
abbrev N_Lbelow : List Str := ["_law_tree_here", "_law_found", "_law_left", "_law_one"]
theorem sc_Lbelow : FnScope N_Lbelow ["_law_tree_here"] (defScope s_Lbelow) := ⟨rfl, rfl, rfl, by decide +kernel, rfl, by decide +kernel, by decide +kernel⟩
theorem dpAll_snoc {H : Hp} : ∀ {xs : List V} {ts : List T} {t : T}, DpAll K H xs ((ts ++ [t]).map (treeD nu)) → ∃ xs' x, xs = xs' ++ [x] ∧ DpAll K H xs' (ts.map (treeD nu)) ∧ Dp K H x (treeD nu t) := by
  intro xs ts
  induction ts generalizing xs with
  | nil =>
    intro t h
    obtain ⟨x, rfl, hx⟩ := dp1 h
    exact ⟨[], x, rfl, .nil, hx⟩
  | cons u ts ih =>
    intro t h
    have h' : DpAll K H xs (treeD nu u :: (ts ++ [t]).map (treeD nu)) := h
    cases h' with
    | cons h1 h2 =>
      obtain ⟨xs', x, rfl, a1, a2⟩ := ih h2
      exact ⟨_ :: xs', x, rfl, .cons h1 a1, a2⟩
theorem sizes_pos {ts : List T} : sizesT ts = 0 → ts = [] := fun h => by
  cases ts with
  | nil => rfl
  | cons t r =>
    exfalso
    have h' : sizeT t + sizesT r = 0 := h
    cases t with
    | leaf i => have : 1 + sizesT r = 0 := h'; omega
    | fork a b => have : sizeT a + sizeT b + 1 + sizesT r = 0 := h'; omega
theorem leaves_size : ∀ t : T, (leaves t).length ≤ sizeT t ∧ sizeT t + 1 ≤ 2 * (leaves t).length
  | .leaf _ => ⟨Nat.le_refl _, Nat.le_refl _⟩
  | .fork l r => by
    have h1 := leaves_size l
    have h2 := leaves_size r
    have e : (leaves (.fork l r)).length = (leaves l).length + (leaves r).length := List.length_append
    show _ ≤ sizeT l + sizeT r + 1 ∧ sizeT l + sizeT r + 1 + 1 ≤ _
    omega
theorem sizes_len : ∀ ts : List T, ts.length ≤ sizesT ts
  | [] => Nat.le_refl _
  | a :: b => by
    have h1 := (leaves_size a).1
    have h2 := leaves_pos a
    have h3 := sizes_len b
    show b.length + 1 ≤ sizeT a + sizesT b
    omega
theorem ok_Lbelow (N : Nu nu) (F : FnP K "_law_below" s_Lbelow f fd) (B : Bi mg) : FnOk P w K mg base CX0 1 f fd ["_law_tree_here"] (spBelowL K nu) := by
  refine F.ok sc_Lbelow (fun vs H Q E h => sp_len h fun _ => rfl) (fun cdv A outer s H vs Q E hr h => ?_)
  obtain ⟨t, Hb, ⟨ho, hdp⟩, e, hv, q⟩ := h
  refine ⟨_, PSs.nox (pss_cons (ps_set (i := 1) sc_Lbelow.nd rfl (Or.inl rfl) (pe_lst pa_nil))
    (pss_cons (ps_set (i := 2) sc_Lbelow.nd rfl (Or.inl rfl) (pe_lst (pa_cons (pv 0) pa_nil)))
    (pss_cons (ps_while PassesOwn.never (pt_cmpR (q_neD K hr.units) (pv 2) (pe_lst pa_nil) (nomark _))
      (pss_cons (ps_set (i := 3) sc_Lbelow.nd rfl (Or.inl rfl) (pe_bm0 PySem.F.plainAttrs_list PySem.F.slot_list_pop PySem.F.type_list_pop mt_pop (pv 2)))
      (pss_one (ps_if (pt_val (p_isS K B (pv 3))) (pss_one (ps_expr (pe_bm PySem.F.plainAttrs_list PySem.F.slot_list_append PySem.F.type_list_append mt_append (pv 1) (pa_cons (pv 3) pa_nil))))
        (pss_one (ps_expr (pe_bm PySem.F.plainAttrs_list PySem.F.slot_list_extend PySem.F.type_list_extend mt_extend (pv 2) (pa_cons (p_list K B (pv 3)) pa_nil))))))))
    (pss_one (ps_ret (p_tuple K B (p_sorted K B hr.units (pv 1)))))))), ?_⟩
  obtain ⟨v, rfl, h1⟩ := dp1 hv
  have ht := leaves_size t
  refine sd_setN (K := K) (Hb := Hb) (ds := []) (evn_lst eva_nil) e fun pf xf Hb1 H1 k1 f1n f1h f1c f1a => ?_
  refine sd_setN (K := K) (Hb := Hb1) (ds := [treeD nu t]) (evn_lst (eva_cons (evd_var rfl (dp_mono k1.bas _ _ h1)) eva_nil) (by exact (by decide : 1 ≤ 100000))) k1.sub fun pl xl Hb2 H2 k2 l2n l2h l2c l2a => ?_
  obtain ⟨fh2, fc2⟩ := k2.hid f1h f1c
  have hne : pf ≠ pl := fun z => by rw [← z, f1c] at l2n; cases l2n
  have k02 : Kn Hb H Hb2 H2 := k1.trans k2
  have upE : ∀ {H' : Hp} {xs : List V}, Ex Hb2 H' → H' pl = some (.lst xs) → Ex (upd Hb2 pl (.lst xs)) H' := fun hE hp c o z => by
    by_cases z2 : c = pl
    · subst z2; rw [upd_same] at z; cases z; exact hp
    · rw [upd_ne z2] at z; exact hE c o z
  refine sd_while (Hb := upd Hb2 pl (.lst xl)) (fun m σ' Hc H' => ∃ xs left fx found c3, σ' = [some v, some (.ref pf), some (.ref pl), c3] ∧ Hc = upd Hb2 pl (.lst xs) ∧ Ex Hb2 H' ∧ H' pl = some (.lst xs) ∧ Ex H H' ∧ H' pf = some (.lst fx) ∧ DpAll K Hb2 fx (found.map (nmD nu)) ∧ DpAll K Hb2 xs (left.map (treeD nu)) ∧
      (found ++ left.flatMap leaves).Perm (leaves t) ∧ found.length + sizesT left ≤ 200 ∧ (∀ u ∈ left, depthT u ≤ 50) ∧ m = sizesT left) (sizeT t) ⟨xl, [t], xf, [], none, rfl, rfl, k2.sub, l2c, k02.cur, fc2, dpAll_mono k2.bas _ _ f1a, l2a, by simp, by show 0 + (sizeT t + 0) ≤ 200; omega, fun u hu => by rw [List.mem_singleton.mp hu]; exact hdp, rfl⟩
    (fun m σ' Hc H' ⟨xs, left, fx, found, c3, _, z, hE, hp, _⟩ => by rw [z]; exact upE hE hp) ?_
  rintro m σ' Hc H' ⟨xs, left, fx, found, c3, rfl, rfl, eH, hpl, eH0, hpf, hfx, hxs, hperm, hsz, hdl, rfl⟩
  have hexp : Ex Hb2 (upd Hb2 pl (.lst xs)) := Evl.Ex.new l2h
  have hleft : Dp K (upd Hb2 pl (.lst xs)) (.ref pl) (.list (left.map (treeD nu))) := .lst (.inl (.inl upd_same)) (dpAll_mono hexp _ _ hxs)
  obtain ⟨sl, nl⟩ := shaped_trees N hdl (by decide)
  have kt : EvT (tTest (tOp (rNeD K) (tVar 2) (tLst tNil))) [some v, some (.ref pf), some (.ref pl), c3] (upd Hb2 pl (.lst xs)) (!PyData.eqv (.list (left.map (treeD nu))) (.list [])) :=
    evt_test (evd_op (evd_var rfl hleft) (evn_lst eva_nil).asD (rd_neD sl (by decide) nl (by decide)))
  refine ⟨_, kt, fun z H1' e1 => ?_, fun z H1' e1 => ?_⟩
  · obtain ⟨left', u, rfl⟩ : ∃ l' u, left = l' ++ [u] := by
      rcases List.eq_nil_or_concat left with y | ⟨l', u, y⟩
      · subst y; simp [PyData.eqv, PyData.eqvAll] at z
      · exact ⟨l', u, by simpa using y⟩
    obtain ⟨xs', x, rfl, ha', hx⟩ := dpAll_snoc hxs
    have hpl1 := e1 _ _ hpl
    refine ⟨.ref pl, rfl, .inl ⟨rfl, _, .inl (.inl hpl1)⟩, pl, xs' ++ [x], x, rfl, rfl, hpl1, by simp, ?_⟩
    rw [List.dropLast_concat]
    have h3pl : upd H1' pl (.lst xs') pl = some (.lst xs') := upd_same
    have h3pf : upd H1' pl (.lst xs') pf = some (.lst fx) := by rw [upd_ne hne]; exact e1 _ _ hpf
    have e3 : Ex Hb2 (upd H1' pl (.lst xs')) := ex_hid (eH.trans e1) l2h
    have e30 : Ex H (upd H1' pl (.lst xs')) := Evl.Ex.mut (eH0.trans e1) (none_back k1.cur l2n)
    generalize upd H1' pl (.lst xs') = H3 at h3pl h3pf e3 e30
    have szu : sizesT (left' ++ [u]) = sizesT left' + sizeT u := by rw [sizes_app]; rfl
    rw [szu] at hsz
    have hdu := hdl u (by simp)
    have hdl' : ∀ y ∈ left', depthT y ≤ 50 := fun y hy => hdl y (List.mem_append_left _ hy)
    have hfl : fx.length = found.length := by rw [dpAll_len hfx, List.length_map]
    have hxl : xs'.length ≤ sizesT left' := by
      rw [dpAll_len ha', List.length_map]
      exact sizes_len left'
    cases u with
    | leaf i =>
      refine sd_if (Hb := Hb2) (evt_B (rcd_isi (d := nmD nu i) (evd_var rfl hx) isi_sS)) e3 (fun _ H4 e4 => ?_) fun y => Bool.noConfusion y
      refine sd_append (K := K) (Hb := Hb2) (d := nmD nu i) (p := pf) rfl (e4 _ _ h3pf) (by omega) (evd_var rfl hx) (e3.trans e4) fun v5 Hb5 H5 k5 hv5 => ?_
      cases hv5
      have c5pl : H5 pl = some (.lst xs') := k5.cur _ _ (e4 _ _ h3pl)
      refine ⟨sizesT left', upd Hb2 pl (.lst xs'), by rw [szu]; show _ < _ + 1; omega, xs', left', fx ++ [.str (nu i)], found ++ [i], some x, rfl, rfl, ex_hid ((e3.trans e4).trans k5.cur) fh2, by rw [upd_ne (Ne.symm hne)]; exact c5pl, Evl.Ex.mut ((e30.trans e4).trans k5.cur) f1n, upd_same, ?_, ha', ?_, ?_, hdl', rfl⟩
      · rw [List.map_append]
        exact dpAll_app hfx (dpAll_one (.str _))
      · refine List.Perm.trans ?_ hperm
        rw [List.flatMap_append, List.append_assoc]
        show (found ++ ([i] ++ left'.flatMap leaves)).Perm (found ++ (left'.flatMap leaves ++ [i]))
        exact (List.perm_append_comm).append_left found
      · rw [List.length_append, List.length_singleton]
        have : sizeT (.leaf i) = 1 := rfl
        omega
    | fork l r =>
      refine sd_if (Hb := Hb2) (evt_B (rcd_isi (d := .tuple [treeD nu l, treeD nu r]) (evd_var rfl hx) isi_tS)) e3 (fun y => Bool.noConfusion y) fun _ H4 e4 => ?_
      have hx' : Dp K Hb2 x (.tuple [treeD nu l, treeD nu r]) := hx
      cases hx' with
      | @tup a ys _ hat hay =>
      have hys : ys.length = 2 := dpAll_len hay
      refine ⟨.ref pl, rfl, .inl ⟨rfl, _, .inl (.inl (e4 _ _ h3pl))⟩, _, rfl, a, ys, rfl, .inr (SqT.of ((e3.trans e4) _ _ hat)), fun l2 hl2 => ?_⟩
      have e5 : Ex H4 (upd H4 l2 (.lst ys)) := Evl.Ex.new hl2
      have h5pl := e5 _ _ (e4 _ _ h3pl)
      have h5pf := e5 _ _ (e4 _ _ h3pf)
      have h5l2 : upd H4 l2 (.lst ys) l2 = some (.lst ys) := upd_same
      generalize upd H4 l2 (.lst ys) = H5 at e5 h5pl h5pf h5l2
      refine ⟨pl, l2, xs', ys, rfl, rfl, h5pl, h5l2, Evl.sz_of (by omega), ?_⟩
      have sf : sizeT (.fork l r) = sizeT l + sizeT r + 1 := rfl
      have s2 : sizesT (left' ++ [l, r]) = sizesT left' + (sizeT l + sizeT r) := by rw [sizes_app]; rfl
      have hlr := depth_lr (l := l) (r := r) (n := 50) (by omega)
      refine ⟨sizesT (left' ++ [l, r]), upd Hb2 pl (.lst (xs' ++ ys)), by rw [szu, s2, sf]; omega, xs' ++ ys, left' ++ [l, r], fx, found, some (.ref a), rfl, rfl, ex_hid ((e3.trans e4).trans e5) l2h, upd_same, Evl.Ex.mut ((e30.trans e4).trans e5) (none_back k1.cur l2n), by rw [upd_ne hne]; exact h5pf, hfx, ?_, ?_, by rw [s2]; omega, ?_, rfl⟩
      · rw [List.map_append]
        exact dpAll_app ha' hay
      · refine List.Perm.trans ?_ hperm
        rw [List.flatMap_append, List.flatMap_append]
        simp [leaves]
      · intro y hy
        rcases List.mem_append.mp hy with y1 | y1
        · exact hdl' y y1
        · rcases List.mem_cons.mp y1 with y2 | y2
          · rw [y2]; omega
          · rw [List.mem_singleton.mp y2]; omega
  · have hl : left = [] := by
      cases left with
      | nil => rfl
      | cons a b => simp [PyData.eqv, PyData.eqvAll] at z
    subst hl
    have hperm' : found.Perm (leaves t) := by simpa using hperm
    have ow : Own K Hb2 H1' pf (found.map (nmD nu)) := ⟨fh2, fx, e1 _ _ hpf, hfx⟩
    obtain ⟨Hs, s1, s2, s3, s4⟩ := ow.show_ (eH.trans e1)
    refine sd_ret (K := K) (Hb := Hs) (evd_is (e_tup (e_sort (evd_var rfl s3) (nm_alike _) (nm_sortable _) (nm_flat _)).asD) (b := lotN nu (namesT t)) ?_) s2 fun v6 Hb' H' k hv => q v6 Hb' H' ?_ hv
    · rw [sort_nm N, lotN_eq, sortN_perm_eq hperm']
      rfl
    · have kk : Kn Hb H Hs H1' := ⟨eH0.trans e1, k02.bas.trans s1, s2, fun a o y => by
        rcases s4 a o y with y1 | y1
        · rw [y1]; exact .inr f1n
        · exact k02.nw a o y1⟩
      exact kk.trans k
end
end Jt

set_option Elab.async false
set_option linter.all false
set_option maxRecDepth 100000
set_option maxHeartbeats 1000000
/-! The law's to, beside, named, hung. -/
namespace Jt
open PySem PySem.Spec PyProof.Rows L2 PySem.W
section
variable {P : Program} {w : World} {K : PySem.W.Frag} {mg : Str → Option Value} {base : Heap} {f f1 f2 f3 f4 : Addr} {fd fd1 fd2 fd3 fd4 : FuncData} {nu : Nat → Str}
/-! _law_to -/
def namesD (nu : Nat → Str) (l : Bool) (m : List Nat) : PyData := cond l (.list ((m.map nu).map .str)) (lotN nu m)
theorem namesD_or (l : Bool) (m : List Nat) : namesD nu l m = .list (sts (m.map nu)) ∨ namesD nu l m = .tuple (sts (m.map nu)) := by
  cases l
  · exact .inr rfl
  · exact .inl rfl
abbrev ToI := (T × List Nat) × Bool
abbrev spToL (K : PySem.W.Frag) (nu : Nat → Str) (n : Nat) : Sp := spD K (fun p : ToI => depthT p.1.1 < n ∧ n ≤ 50) (fun p => [treeD nu p.1.1, namesD nu p.2 p.1.2]) fun p => optD nu (partT p.1.1 p.1.2)
abbrev N_Lto : List Str := ["_law_tree_here", "_law_names_here", "_law_parts", "_law_part"]
theorem sc_Lto : FnScope N_Lto ["_law_tree_here", "_law_names_here"] (defScope s_Lto) := ⟨rfl, rfl, rfl, by decide +kernel, rfl, by decide +kernel, by decide +kernel⟩
theorem ok_Lto {n k : Nat} (N : Nu nu) (hk : 2 ≤ k) (F : FnP K "_law_to" s_Lto f fd) (B : Bi mg) (K1 : Kept P w K mg base "_law_to" k ["_law_tree_here", "_law_names_here"] (spToL K nu n) f1 fd1) (K2 : Kept P w K mg base "_law_fork" 2 ["_law_parts"] (spForkOf K nu) f2 fd2) :
    FnOk P w K mg base CX0 (k + 1) f fd ["_law_tree_here", "_law_names_here"] (spToL K nu (n + 1)) := by
  refine F.ok sc_Lto (fun vs H Q E h => sp_len h fun _ => rfl) (fun cdv A outer s H vs Q E hr h => ?_)
  obtain ⟨⟨⟨t, m⟩, isL⟩, Hb, ⟨o1, o2⟩, e, hv, q⟩ := h
  refine ⟨_, PSs.nox (pss_cons (ps_if (pt_val (p_isS K B (pv 0))) (pss_one (ps_ret (pe_ifExp (pt_cmpR (q_in K) (pv 0) (pv 1) (by with_unfolding_all rfl)) (pv 0) pe_non))) pss_nil)
    (pss_cons (p_setlc (own := [("_law_part", 3)]) (i := 2) (j := 3) rfl sc_Lto.nd rfl rfl (q_tup K (pv 0)) (blkOk_by (N := N_Lto) (sc := defScope s_Lto) (by decide +kernel)) (fun _ _ _ _ _ => p_call K1 hr (pa_cons (pv 3) (pa_cons (pv 1) pa_nil))))
    (pss_cons (p_setlcT (own := [("_law_part", 3)]) (i := 2) (j := 3) rfl sc_Lto.nd rfl rfl (q_list K (pv 2)) (blkOk_by (N := N_Lto) (sc := defScope s_Lto) (by decide +kernel)) (fun _ _ _ _ _ => pt_cmpR op_notN (pv 3) pe_non (nomark _)) (fun _ _ _ _ _ => pv 3))
    (pss_one (ps_ret (pe_ifExp (pt_cmpR (q_neD K hr.units) (pv 2) (pe_lst pa_nil) (nomark _)) (p_call K2 hr (pa_cons (pv 2) pa_nil) hk) pe_non)))))), ?_⟩
  obtain ⟨v, u, rfl, h1, h2⟩ := dp2 hv
  have h2 : Dp K Hb u (namesD nu isL m) := h2
  cases t with
  | leaf i =>
    refine sd_if (Hb := Hb) (evt_B (rcd_isi (d := nmD nu i) (evd_var rfl h1) isi_sS)) e (fun _ H1 e1 => ?_) fun z => Bool.noConfusion z
    have e2 : partT (.leaf i) m = cond (memB i m) (some (.leaf i)) none := rfl
    refine sd_ret (evd_if (evt_test (evd_op (evd_var (d := nmD nu i) rfl h1) (evd_var rfl h2) (rd_inL (namesD_or isL m)))) (d := optD nu (partT (.leaf i) m)) (fun z => ?_) fun z => ?_) (e.trans e1) fun v Hb' H' k hv => q v Hb' H' (kn_up e1 k) hv
    · rw [mem_nu N.mono] at z
      rw [e2, z]
      exact evd_var rfl h1
    · rw [mem_nu N.mono] at z
      rw [e2, z]
      exact evd_non
  | fork l r =>
    refine sd_if (Hb := Hb) (evt_B (rcd_isi (d := .tuple [treeD nu l, treeD nu r]) (evd_var rfl h1) isi_tS)) e (fun z => Bool.noConfusion z) fun _ H1 e1 => ?_
    have dl := depth_lr o1
    refine sd_set (Hb := Hb) (evb_lc1 (bs := [l, r]) (enc := treeD nu) (fun d => optD nu (partT d m)) (wad_tup (evd_var rfl h1)) (by exact (by decide : 2 ≤ 40000)) (fun _ => rfl) fun d hd v2 Hc e3 h3 =>
      evd_call (eva_cons (evd_var rfl h3) (eva_cons (evd_var rfl (dp_mono e3 _ _ h2)) eva_nil)) ((d, m), isL) ⟨mem_lr (p := fun d => depthT d < n) hd dl, by omega⟩ rfl).asD (e.trans e1) fun vp Hc Hd k1 hp => ?_
    have eq1 : ([l, r].map fun d => optD nu (partT d m)) = [partT l m, partT r m].map (optD nu) := rfl
    rw [eq1] at hp
    refine sd_set (Hb := Hc) (evb_lc (bs := [partT l m, partT r m]) (enc := optD nu) someB (optD nu) (wad_list (evd_var rfl hp)) (by exact (by decide : 2 ≤ 40000)) (fun _ => rfl) (fun d hd v2 Hc2 e3 h3 =>
      evt_is (evt_test (evd_op (evd_var rfl h3) evd_non rd_notN)) (by rw [isNone_opt, Bool.not_not])) fun d hd _ v2 Hc2 e3 h3 => evd_var rfl h3).asD k1.sub fun vk Hd2 He k2 hk2 => ?_
    rw [some_opts] at hk2
    have dps : ∀ x ∈ ([partT l m, partT r m].filter someB).map optT, depthT x ≤ n := fun x hx => by
      obtain ⟨o, ho, rfl⟩ := List.mem_map.mp hx
      obtain ⟨ho1, ho2⟩ := List.mem_filter.mp ho
      have any : ∀ t : T, depthT t < n → o = partT t m → depthT (optT o) ≤ n := fun t ht ht2 => by
        cases o with
        | none => cases ho2
        | some y =>
          have := part_depth t m y ht2.symm
          show depthT y ≤ n
          omega
      rcases List.mem_cons.mp ho1 with z | z
      · exact any l dl.1 z
      · exact any r dl.2 (List.mem_singleton.mp z)
    obtain ⟨s1, s2⟩ := shaped_trees N dps (by omega)
    have fin : ∀ v Hb' H', Kn Hd2 He Hb' H' → Dp K Hb' v (optD nu (partT (.fork l r) m)) → Q v H' := fun v Hb' H' k hv => q v Hb' H' (kn_up e1 ((k1.trans k2).trans k)) hv
    rw [part_fork] at fin
    generalize hps : [partT l m, partT r m].filter someB = ps at hk2 s1 s2 fin
    refine sd_ret (evd_if (evt_test (evd_op (evd_var rfl hk2) (evn_lst eva_nil).asD (rd_neD s1 (by decide) s2 (by decide)))) (fun z => ?_) fun z => ?_) k2.sub fin
    · have hne : ps ≠ [] := fun z2 => by
        subst z2
        simp [PyData.eqv, PyData.eqvAll] at z
      have hfo : ∃ a, ps.map optT = [a] ∨ ∃ b, ps.map optT = [a, b] := by
        rw [← hps] at hne ⊢
        cases h5 : partT l m <;> cases h6 : partT r m
        · rw [h5, h6] at hne; exact absurd rfl hne
        · exact ⟨_, .inl rfl⟩
        · exact ⟨_, .inl rfl⟩
        · exact ⟨_, .inr ⟨_, rfl⟩⟩
      have := evd_call (K := K) (E := E0) (arg := fun ps : List T => [.list (ps.map (treeD nu))]) (res := fun ps => treeD nu (forkOf ps)) (ok := fun ps : List T => ∃ a, ps = [a] ∨ ∃ b, ps = [a, b]) (eva_cons (evd_var (σ := start N_Lto [v, u] |>.set 2 (some vp) |>.set 2 (some vk)) (i := 2) rfl hk2) eva_nil) (ps.map optT) hfo rfl
      cases ps with
      | nil => exact absurd rfl hne
      | cons a b => exact this
    · have he : ps = [] := by
        cases ps with
        | nil => rfl
        | cons a b => simp [PyData.eqv, PyData.eqvAll] at z
      subst he
      exact evd_non
/-! _law_beside -/
abbrev BsI := (T × Nat) × T
abbrev spBeside (K : PySem.W.Frag) (nu : Nat → Str) (n : Nat) : Sp := spD K (fun p : BsI => depthT p.1.1 < n ∧ n ≤ 50) (fun p => [treeD nu p.1.1, nmD nu p.1.2, treeD nu p.2]) fun p => treeD nu (besideT p.1.2 p.2 p.1.1)
abbrev N_Lbeside : List Str := ["_law_tree_here", "_law_name", "_law_taken", "_law_part"]
abbrev P_Lbeside : List Str := ["_law_tree_here", "_law_name", "_law_taken"]
theorem sc_Lbeside : FnScope N_Lbeside P_Lbeside (defScope s_Lbeside) := ⟨rfl, rfl, rfl, by decide +kernel, rfl, by decide +kernel, by decide +kernel⟩
theorem ok_Lbeside {n k : Nat} (N : Nu nu) (hk : 2 ≤ k) (F : FnP K "_law_beside" s_Lbeside f fd) (B : Bi mg) (K1 : Kept P w K mg base "_law_beside" k P_Lbeside (spBeside K nu n) f1 fd1) (K2 : Kept P w K mg base "_law_fork" 2 ["_law_parts"] (spForkOf K nu) f2 fd2) :
    FnOk P w K mg base CX0 (k + 1) f fd P_Lbeside (spBeside K nu (n + 1)) := by
  refine F.ok sc_Lbeside (fun vs H Q E h => sp_len h fun _ => rfl) (fun cdv A outer s H vs Q E hr h => ?_)
  obtain ⟨⟨⟨t, i⟩, tk⟩, Hb, ⟨o1, o2⟩, e, hv, q⟩ := h
  refine ⟨_, PSs.nox (pss_cons (ps_if (pt_cmpR (q_eqD K hr.units) (pv 0) (pv 1) (nomark _)) (pss_one (ps_ret (p_call K2 hr (pa_cons (pe_lst (pa_cons (pv 0) (pa_cons (pv 2) pa_nil))) pa_nil) hk))) pss_nil)
    (pss_cons (ps_if (pt_val (p_isS K B (pv 0))) (pss_one (ps_ret (pv 0))) pss_nil)
    (pss_one (ps_ret (p_call K2 hr (pa_cons (p_lc (own := [("_law_part", 3)]) (j := 3) rfl sc_Lbeside.nd rfl (q_tup K (pv 0)) (blkOk_by (N := N_Lbeside) (sc := defScope s_Lbeside) (by decide +kernel)) (fun _ _ _ _ _ => p_call K1 hr (pa_cons (pv 3) (pa_cons (pv 1) (pa_cons (pv 2) pa_nil))))) pa_nil) hk))))), ?_⟩
  obtain ⟨v, u, x, rfl, h1, h2, h3⟩ := dp3 hv
  have h1 : Dp K Hb v (treeD nu t) := h1
  have h2 : Dp K Hb u (treeD nu (.leaf i)) := h2
  have h3 : Dp K Hb x (treeD nu tk) := h3
  have q : ∀ v Hb' H', Kn Hb H Hb' H' → Dp K Hb' v (treeD nu (besideT i tk t)) → Q v H' := q
  have st := shaped_tree N (t := t) (by have : depthT t < n + 1 := o1; omega)
  have si := shaped_tree N (t := .leaf i) (Nat.zero_le _)
  have nt := (tree_shape N t).2.2
  have ni := (tree_shape N (.leaf i)).2.2
  have kt : EvT (tTest (tOp (rEqD K) (tVar 0) (tVar 1))) [some v, some u, some x, none] Hb (beqT t (.leaf i)) := evt_is (evt_test (evd_op (evd_var rfl h1) (evd_var rfl h2) (rd_eqD st si nt ni))) (eqv_tree N _ _)
  cases t with
  | leaf j =>
    refine sd_if kt e (fun z H1 e1 => ?_) fun z H1 e1 => ?_
    · have hb : Nat.beq j i = true := z
      have er : besideT i tk (.leaf j) = forkN (.leaf j) tk := by show cond (Nat.beq j i) _ _ = _; rw [hb]; rfl
      rw [er] at q
      have kc : EvD K (tCall (spForkOf K nu) [] E0 (tCons (tLst (tCons (tVar 0) (tCons (tVar 2) tNil))) tNil)) [some v, some u, some x, none] Hb (treeD nu (forkOf [.leaf j, tk])) :=
        evd_call (eva_cons (evn_lst (eva_cons (evd_var rfl h1) (eva_cons (evd_var rfl h3) eva_nil)) (by exact (by decide : 2 ≤ 100000))).asD eva_nil) [.leaf j, tk] ⟨_, .inr ⟨_, rfl⟩⟩ rfl
      exact sd_ret kc (e.trans e1) fun v Hb' H' k hv => q v Hb' H' (kn_up e1 k) hv
    · have hb : Nat.beq j i = false := z
      have er : besideT i tk (.leaf j) = .leaf j := by show cond (Nat.beq j i) _ _ = _; rw [hb]; rfl
      rw [er] at q
      have ks : EvT (tB (tCB (rIsi K) (tCons (tVar 0) (tCons (tC (.ty "str")) tNil)))) [some v, some u, some x, none] Hb true := evt_B (rcd_isi (d := nmD nu j) (evd_var rfl h1) isi_sS)
      refine sd_if ks (e.trans e1) (fun _ H2 e2 => ?_) fun y => Bool.noConfusion y
      exact ⟨v, rfl, q v Hb H2 (kn_up (e1.trans e2) (Kn.refl ((e.trans e1).trans e2))) h1⟩
  | fork l r =>
    refine sd_if kt e (fun z => Bool.noConfusion z) fun z H1 e1 => ?_
    have ks : EvT (tB (tCB (rIsi K) (tCons (tVar 0) (tCons (tC (.ty "str")) tNil)))) [some v, some u, some x, none] Hb false := evt_B (rcd_isi (d := .tuple [treeD nu l, treeD nu r]) (evd_var rfl h1) isi_tS)
    refine sd_if ks (e.trans e1) (fun y => Bool.noConfusion y) fun _ H2 e2 => ?_
    have dl := depth_lr o1
    have kc : EvD K (tCall (spForkOf K nu) [] E0 (tCons (tLc (iTup K (tVar 0)) (gName 3) tYes (tCall (spBeside K nu n) [] E0 (tCons (tVar 3) (tCons (tVar 1) (tCons (tVar 2) tNil)))) [3]) tNil)) [some v, some u, some x, none] Hb (treeD nu (forkOf [besideT i tk l, besideT i tk r])) :=
      evd_call (eva_cons (evb_lc1 (bs := [l, r]) (enc := treeD nu) (fun d => treeD nu (besideT i tk d)) (wad_tup (evd_var rfl h1)) (by exact (by decide : 2 ≤ 40000)) (fun _ => rfl) fun d hd v2 Hc e3 h4 =>
        evd_call (eva_cons (evd_var rfl h4) (eva_cons (evd_var rfl (dp_mono e3 _ _ h2)) (eva_cons (evd_var rfl (dp_mono e3 _ _ h3)) eva_nil))) ((d, i), tk) ⟨mem_lr (p := fun d => depthT d < n) hd dl, by omega⟩ rfl).asD eva_nil) [besideT i tk l, besideT i tk r] ⟨_, .inr ⟨_, rfl⟩⟩ rfl
    exact sd_ret kc ((e.trans e1).trans e2) fun v Hb' H' k hv => q v Hb' H' (kn_up (e1.trans e2) k) hv
/-! _law_hung -/
abbrev spHung (K : PySem.W.Frag) (nu : Nat → Str) (n : Nat) : Sp := spD K (fun p : BsI => depthT p.1.1 < n ∧ n ≤ 50) (fun p => [treeD nu p.1.1, nmD nu p.1.2, treeD nu p.2]) fun p => treeD nu (hungT p.1.2 p.2 p.1.1)
abbrev N_Lhung : List Str := ["_law_tree_here", "_law_name", "_law_hanging", "_law_part"]
abbrev P_Lhung : List Str := ["_law_tree_here", "_law_name", "_law_hanging"]
theorem sc_Lhung : FnScope N_Lhung P_Lhung (defScope s_Lhung) := ⟨rfl, rfl, rfl, by decide +kernel, rfl, by decide +kernel, by decide +kernel⟩
theorem ok_Lhung {n k : Nat} (N : Nu nu) (hk : 2 ≤ k) (F : FnP K "_law_hung" s_Lhung f fd) (B : Bi mg) (K1 : Kept P w K mg base "_law_hung" k P_Lhung (spHung K nu n) f1 fd1) (K2 : Kept P w K mg base "_law_fork" 2 ["_law_parts"] (spForkOf K nu) f2 fd2) :
    FnOk P w K mg base CX0 (k + 1) f fd P_Lhung (spHung K nu (n + 1)) := by
  refine F.ok sc_Lhung (fun vs H Q E h => sp_len h fun _ => rfl) (fun cdv A outer s H vs Q E hr h => ?_)
  obtain ⟨⟨⟨t, i⟩, tk⟩, Hb, ⟨o1, o2⟩, e, hv, q⟩ := h
  refine ⟨_, PSs.nox (pss_cons (ps_if (pt_cmpR (q_eqD K hr.units) (pv 0) (pv 1) (nomark _)) (pss_one (ps_ret (pv 2))) pss_nil)
    (pss_cons (ps_if (pt_val (p_isS K B (pv 0))) (pss_one (ps_ret (pv 0))) pss_nil)
    (pss_one (ps_ret (p_call K2 hr (pa_cons (p_lc (own := [("_law_part", 3)]) (j := 3) rfl sc_Lhung.nd rfl (q_tup K (pv 0)) (blkOk_by (N := N_Lhung) (sc := defScope s_Lhung) (by decide +kernel)) (fun _ _ _ _ _ => p_call K1 hr (pa_cons (pv 3) (pa_cons (pv 1) (pa_cons (pv 2) pa_nil))))) pa_nil) hk))))), ?_⟩
  obtain ⟨v, u, x, rfl, h1, h2, h3⟩ := dp3 hv
  have h1 : Dp K Hb v (treeD nu t) := h1
  have h2 : Dp K Hb u (treeD nu (.leaf i)) := h2
  have h3 : Dp K Hb x (treeD nu tk) := h3
  have q : ∀ v Hb' H', Kn Hb H Hb' H' → Dp K Hb' v (treeD nu (hungT i tk t)) → Q v H' := q
  have st := shaped_tree N (t := t) (by have : depthT t < n + 1 := o1; omega)
  have si := shaped_tree N (t := .leaf i) (Nat.zero_le _)
  have nt := (tree_shape N t).2.2
  have ni := (tree_shape N (.leaf i)).2.2
  have kt : EvT (tTest (tOp (rEqD K) (tVar 0) (tVar 1))) [some v, some u, some x, none] Hb (beqT t (.leaf i)) := evt_is (evt_test (evd_op (evd_var rfl h1) (evd_var rfl h2) (rd_eqD st si nt ni))) (eqv_tree N _ _)
  cases t with
  | leaf j =>
    refine sd_if kt e (fun z H1 e1 => ?_) fun z H1 e1 => ?_
    · have hb : Nat.beq j i = true := z
      have er : hungT i tk (.leaf j) = tk := by show cond (Nat.beq j i) _ _ = _; rw [hb]; rfl
      rw [er] at q
      exact ⟨x, rfl, q x Hb H1 (kn_up e1 (Kn.refl (e.trans e1))) h3⟩
    · have hb : Nat.beq j i = false := z
      have er : hungT i tk (.leaf j) = .leaf j := by show cond (Nat.beq j i) _ _ = _; rw [hb]; rfl
      rw [er] at q
      have ks : EvT (tB (tCB (rIsi K) (tCons (tVar 0) (tCons (tC (.ty "str")) tNil)))) [some v, some u, some x, none] Hb true := evt_B (rcd_isi (d := nmD nu j) (evd_var rfl h1) isi_sS)
      refine sd_if ks (e.trans e1) (fun _ H2 e2 => ?_) fun y => Bool.noConfusion y
      exact ⟨v, rfl, q v Hb H2 (kn_up (e1.trans e2) (Kn.refl ((e.trans e1).trans e2))) h1⟩
  | fork l r =>
    refine sd_if kt e (fun z => Bool.noConfusion z) fun z H1 e1 => ?_
    have ks : EvT (tB (tCB (rIsi K) (tCons (tVar 0) (tCons (tC (.ty "str")) tNil)))) [some v, some u, some x, none] Hb false := evt_B (rcd_isi (d := .tuple [treeD nu l, treeD nu r]) (evd_var rfl h1) isi_tS)
    refine sd_if ks (e.trans e1) (fun y => Bool.noConfusion y) fun _ H2 e2 => ?_
    have dl := depth_lr o1
    have kc : EvD K (tCall (spForkOf K nu) [] E0 (tCons (tLc (iTup K (tVar 0)) (gName 3) tYes (tCall (spHung K nu n) [] E0 (tCons (tVar 3) (tCons (tVar 1) (tCons (tVar 2) tNil)))) [3]) tNil)) [some v, some u, some x, none] Hb (treeD nu (forkOf [hungT i tk l, hungT i tk r])) :=
      evd_call (eva_cons (evb_lc1 (bs := [l, r]) (enc := treeD nu) (fun d => treeD nu (hungT i tk d)) (wad_tup (evd_var rfl h1)) (by exact (by decide : 2 ≤ 40000)) (fun _ => rfl) fun d hd v2 Hc e3 h4 =>
        evd_call (eva_cons (evd_var rfl h4) (eva_cons (evd_var rfl (dp_mono e3 _ _ h2)) (eva_cons (evd_var rfl (dp_mono e3 _ _ h3)) eva_nil))) ((d, i), tk) ⟨mem_lr (p := fun d => depthT d < n) hd dl, by omega⟩ rfl).asD eva_nil) [hungT i tk l, hungT i tk r] ⟨_, .inr ⟨_, rfl⟩⟩ rfl
    exact sd_ret kc ((e.trans e1).trans e2) fun v Hb' H' k hv => q v Hb' H' (kn_up (e1.trans e2) k) hv
/-! _law_named: nu the old names, mu the new ones -/
abbrev spNamed (K : PySem.W.Frag) (nu mu : Nat → Str) (sg : Str) (N0 n : Nat) : Sp := spD K (fun t : T => (depthT t < n ∧ n ≤ 50) ∧ ∀ i ∈ leaves t, i < N0) (fun t => [treeD nu t, .str sg]) fun t => treeD mu (reT t)
abbrev N_Lnamed : List Str := ["_law_tree_here", "_law_sign", "_law_part"]
abbrev P_Lnamed : List Str := ["_law_tree_here", "_law_sign"]
theorem sc_Lnamed : FnScope N_Lnamed P_Lnamed (defScope s_Lnamed) := ⟨rfl, rfl, rfl, by decide +kernel, rfl, by decide +kernel, by decide +kernel⟩
theorem ok_Lnamed {n k : Nat} {mu : Nat → Str} {sg : Str} {N0 : Nat} (hmu : ∀ i, i < N0 → mu i = sg ++ cutS (nu i) none (some 7)) (hlen : sg.length ≤ 100 ∧ ∀ i, i < N0 → (nu i).length ≤ 1000 ∧ (cutS (nu i) none (some 7)).length ≤ 1000) (hk : 2 ≤ k) (F : FnP K "_law_named" s_Lnamed f fd) (B : Bi mg) (K1 : Kept P w K mg base "_law_named" k P_Lnamed (spNamed K nu mu sg N0 n) f1 fd1) (K2 : Kept P w K mg base "_law_fork" 2 ["_law_parts"] (spForkOf K mu) f2 fd2) :
    FnOk P w K mg base CX0 (k + 1) f fd P_Lnamed (spNamed K nu mu sg N0 (n + 1)) := by
  refine F.ok sc_Lnamed (fun vs H Q E h => sp_len h fun _ => rfl) (fun cdv A outer s H vs Q E hr h => ?_)
  obtain ⟨t, Hb, ⟨⟨o1, o2⟩, o3⟩, e, hv, q⟩ := h
  refine ⟨_, PSs.nox (pss_cons (ps_if (pt_val (p_isS K B (pv 0))) (pss_one (ps_ret (pe_op op_add_str (pv 1) (pe_slice sl_str (pv 0) po_none (po_some pe_int))))) pss_nil)
    (pss_one (ps_ret (p_call K2 hr (pa_cons (p_lc (own := [("_law_part", 2)]) (j := 2) rfl sc_Lnamed.nd rfl (q_tup K (pv 0)) (blkOk_by (N := N_Lnamed) (sc := defScope s_Lnamed) (by decide +kernel)) (fun _ _ _ _ _ => p_call K1 hr (pa_cons (pv 2) (pa_cons (pv 1) pa_nil)))) pa_nil) hk)))), ?_⟩
  obtain ⟨v, u, rfl, h1, h2⟩ := dp2 hv
  have h1 : Dp K Hb v (treeD nu t) := h1
  have h2 : Dp K Hb u (.str sg) := h2
  have q : ∀ v Hb' H', Kn Hb H Hb' H' → Dp K Hb' v (treeD mu (reT t)) → Q v H' := q
  cases t with
  | leaf j =>
    refine sd_if (Hb := Hb) (evt_B (rcd_isi (d := nmD nu j) (evd_var rfl h1) isi_sS)) e (fun _ H1 e1 => ?_) fun y => Bool.noConfusion y
    have hj : j < N0 := o3 j (by show j ∈ [j]; exact List.mem_singleton.mpr rfl)
    have hl := hlen.2 j hj
    have := hlen.1
    refine sd_ret (K := K) (Hb := Hb) (evd_is (evd_op (evd_var rfl h2) (evd_slS (lo := none) (hi := some 7) (evd_var (d := .str (nu j)) rfl h1) evo_none (evo_some (K := K) evd_int) (by omega)) (rd_addS (by omega))) (b := nmD mu j) (by show _ = PyData.str (mu j); rw [hmu j hj])) (e.trans e1) fun v Hb' H' k hv => q v Hb' H' (kn_up e1 k) hv
  | fork l r =>
    refine sd_if (Hb := Hb) (evt_B (rcd_isi (d := .tuple [treeD nu l, treeD nu r]) (evd_var rfl h1) isi_tS)) e (fun y => Bool.noConfusion y) fun _ H1 e1 => ?_
    have dl := depth_lr o1
    have kc : EvD K (tCall (spForkOf K mu) [] E0 (tCons (tLc (iTup K (tVar 0)) (gName 2) tYes (tCall (spNamed K nu mu sg N0 n) [] E0 (tCons (tVar 2) (tCons (tVar 1) tNil))) [2]) tNil)) [some v, some u, none] Hb (treeD mu (forkOf [reT l, reT r])) :=
      evd_call (eva_cons (evb_lc1 (bs := [l, r]) (enc := treeD nu) (fun d => treeD mu (reT d)) (wad_tup (evd_var rfl h1)) (by exact (by decide : 2 ≤ 40000)) (fun _ => rfl) fun d hd v2 Hc e3 h4 =>
        evd_call (eva_cons (evd_var rfl h4) (eva_cons (evd_var rfl (dp_mono e3 _ _ h2)) eva_nil)) d ⟨⟨mem_lr (p := fun d => depthT d < n) hd dl, by omega⟩, mem_lr (p := fun d => ∀ i ∈ leaves d, i < N0) hd ⟨fun i hi => o3 i (List.mem_append_left _ hi), fun i hi => o3 i (List.mem_append_right _ hi)⟩⟩ rfl).asD eva_nil) [reT l, reT r] ⟨_, .inr ⟨_, rfl⟩⟩ rfl
    exact sd_ret kc (e.trans e1) fun v Hb' H' k hv => q v Hb' H' (kn_up e1 k) hv
end
end Jt

set_option Elab.async false
set_option linter.all false
set_option maxRecDepth 100000
set_option maxHeartbeats 1000000
/-! Names of the law; readings that draw; _law_names. -/
namespace Jt
open PySem PySem.Spec PyProof.Rows L2 PySem.W
/-! ### names, carried on without end -/
def fill (k : Nat) : Str := ⟨(List.replicate (k + 1) 123).toArray⟩
def ext (l : List Str) (i : Nat) : Str := match l[i]? with
  | some x => x
  | none => fill (i - l.length)
theorem ext_lt {l : List Str} {i : Nat} (h : i < l.length) : ext l i = l[i] := by
  unfold ext
  rw [List.getElem?_eq_getElem h]
theorem ext_ge {l : List Str} {i : Nat} (h : l.length ≤ i) : ext l i = fill (i - l.length) := by
  unfold ext
  rw [List.getElem?_eq_none h]
theorem fill_lt : ∀ a b : Nat, a < b → List.replicate (a + 1) 123 < List.replicate (b + 1) 123
  | 0, b + 1, _ => by
    show 123 :: [] < 123 :: (123 :: List.replicate b 123)
    exact List.cons_lt_cons_self.mpr (List.nil_lt_cons _ _)
  | a + 1, b + 1, h => by
    show 123 :: List.replicate (a + 1) 123 < 123 :: List.replicate (b + 1) 123
    exact List.cons_lt_cons_self.mpr (fill_lt a b (Nat.lt_of_succ_lt_succ h))
/-- a name as the law's: short, of small letters -/
def nameLow (x : Str) : Bool := match x.cps.toList with
  | [] => false
  | c :: r => decide (c < 123) && (c :: r).all fun d => decide (d < 0x110000)
theorem ext_nu {l : List Str} (h : l.Pairwise (fun a b => a.cps.toList < b.cps.toList)) (hs : ∀ x ∈ l, nameLow x = true) : Nu (ext l) where
  mono := fun i j hij => by
    by_cases hj : j < l.length
    · rw [ext_lt hj, ext_lt (Nat.lt_trans hij hj)]
      exact List.pairwise_iff_getElem.mp h i j (Nat.lt_trans hij hj) hj hij
    · have hj' : l.length ≤ j := Nat.le_of_not_lt hj
      rw [ext_ge hj']
      by_cases hi : i < l.length
      · rw [ext_lt hi]
        have h1 := hs _ (List.getElem_mem hi)
        unfold nameLow at h1
        cases hc : (l[i]).cps.toList with
        | nil => rw [hc] at h1; cases h1
        | cons c r =>
          rw [hc] at h1
          have h2 : c < 123 := by
            have := (Bool.and_eq_true_iff.mp h1).1
            exact of_decide_eq_true this
          show c :: r < (fill _).cps.toList
          unfold fill
          show c :: r < 123 :: List.replicate _ 123
          exact List.cons_lt_cons_iff.mpr (.inl h2)
      · have hi' : l.length ≤ i := Nat.le_of_not_lt hi
        rw [ext_ge hi']
        exact fill_lt _ _ (by omega)
  ok := fun i => by
    by_cases hi : i < l.length
    · rw [ext_lt hi]
      have h1 := hs _ (List.getElem_mem hi)
      unfold nameLow at h1
      unfold PyData.strOk
      rw [← Array.all_toList]
      cases hc : (l[i]).cps.toList with
      | nil => rfl
      | cons c r =>
        rw [hc] at h1
        exact (Bool.and_eq_true_iff.mp h1).2
    · rw [ext_ge (Nat.le_of_not_lt hi)]
      unfold PyData.strOk fill
      rw [← Array.all_toList, List.all_eq_true]
      intro c hc
      rw [List.eq_of_mem_replicate hc]
      decide
/-! ### the thirteen, in order -/
def th13 : List Str := ["a", "aa", "ab", "b", "ba", "c", "d", "e", "m", "ma", "n", "zz", "zzzzzzzz"]
def thN : Nat → Str := ext th13
theorem th_nu : Nu thN := ext_nu (by decide +kernel) (by decide +kernel)
def thAs : List Nat := [0, 1, 2, 3, 4, 5, 6, 7, 11, 12, 8, 9, 10]
/-! ### changes that leave all but the pen -/
structure KnP (p : Addr) (Hb H Hb' H' : Hp) : Prop where
  exc : Exc p H H'
  bas : Ex Hb Hb'
  sub : Ex Hb' H'
  nw : ∀ a o, Hb' a = some o → Hb a ≠ none ∨ H a = none
  live : H' p ≠ none
theorem Pen.live {n : Nat} {H : Hp} {p cl : Addr} (h : Pen n H p cl) : H p ≠ none := by
  obtain ⟨ns, a, l, h1, _⟩ := h.ex
  rw [h1]; exact Option.some_ne_none _
theorem Pen.liveC {n : Nat} {H : Hp} {p cl : Addr} (h : Pen n H p cl) : H cl ≠ none := by
  obtain ⟨ns, a, l, _, h2, _⟩ := h.ex
  rw [h2]; exact Option.some_ne_none _
theorem exc_back {p : Addr} {H H' : Hp} (e : Exc p H H') (hl : H' p ≠ none) {a : Addr} (h : H' a = none) : H a = none := by
  cases q : H a with
  | none => rfl
  | some o =>
    by_cases ha : a = p
    · subst ha; exact absurd h hl
    · rw [e a o ha q] at h; cases h
theorem Kn.pen {p : Addr} {Hb H Hb' H' : Hp} (k : Kn Hb H Hb' H') (h : H p ≠ none) : KnP p Hb H Hb' H' := ⟨fun c o _ e => k.cur c o e, k.bas, k.sub, k.nw, fun z => by
  cases q : H p with
  | none => exact h q
  | some o => rw [k.cur p o q] at z; cases z⟩
theorem KnP.trans {p : Addr} {Hb H Hb1 H1 Hb2 H2 : Hp} (a : KnP p Hb H Hb1 H1) (b : KnP p Hb1 H1 Hb2 H2) : KnP p Hb H Hb2 H2 :=
  ⟨fun c o hc e => b.exc c o hc (a.exc c o hc e), a.bas.trans b.bas, b.sub, fun x o h => by
    rcases b.nw x o h with q | q
    · cases e : Hb1 x with
      | none => exact absurd e q
      | some u => exact a.nw x u e
    · exact .inr (exc_back a.exc a.live q), b.live⟩
theorem KnP.hidP {p : Addr} {Hb H Hb' H' : Hp} (k : KnP p Hb H Hb' H') (h : Hb p = none) (hl : H p ≠ none) : Hb' p = none := by
  cases e : Hb' p with
  | none => rfl
  | some o =>
    rcases k.nw p o e with q | q
    · exact absurd h q
    · exact absurd q hl
theorem KnP.hid {p : Addr} {Hb H Hb' H' : Hp} (k : KnP p Hb H Hb' H') {a : Addr} {o : HO} (hp : a ≠ p) (h : Hb a = none) (hc : H a = some o) : Hb' a = none ∧ H' a = some o := by
  refine ⟨?_, k.exc a o hp hc⟩
  cases e : Hb' a with
  | none => rfl
  | some u =>
    rcases k.nw a u e with q | q
    · exact absurd h q
    · rw [hc] at q; cases q
theorem exc_ex {p : Addr} {Hb H H' : Hp} (e : Exc p H H') (h : Hb p = none) (f : Ex Hb H) : Ex Hb H' := fun c o z => e c o (fun y => by rw [y, h] at z; cases z) (f c o z)
/-- a reading that draws at most c times from the pen at p: some d with R d -/
def EvP (K : PySem.W.Frag) (p cl : Addr) (c : Nat) (te : TE) (σ : L2.St) (Hb : Hp) (R : PyData → Prop) : Prop := ∀ (n : Nat) (H : Hp), Ex Hb H → Hb p = none → Pen n H p cl → n + c ≤ 10000 → ∀ Q : VK, (∀ d v Hb' H', R d → KnP p Hb H Hb' H' → Pen (n + c) H' p cl → Dp K Hb' v d → Q v H') → te σ H Q
section
variable {P : Program} {w : World} {K : PySem.W.Frag} {mg : Str → Option Value} {base : Heap} {f f1 f2 f3 f4 : Addr} {fd fd1 fd2 fd3 fd4 : FuncData} {nu : Nat → Str}
section
variable {σ : L2.St} {Hb : Hp} {te ta tb : TE} {p cl : Addr} {c c2 : Nat} {R R2 : PyData → Prop} {d : PyData} {ds : List PyData}
theorem evp_of (h : EvD K te σ Hb d) : EvP K p cl 0 te σ Hb (· = d) := fun n H e hp pn hn Q q => h H e Q fun v Hb' H' k hv => q d v Hb' H' rfl (k.pen pn.live) (by rw [Nat.add_zero]; exact pn.ex_ k.cur) hv
theorem evp_draw {i : Nat} {many : Int} (hi : σ[i]? = some (some (.ref p))) (h : EvD K te σ Hb (.int many)) (h1 : 1 ≤ many) (h2 : many ≤ 1000) : EvP K p cl 1 (tCall spDraw [] E0 (tCons (tVar i) (tCons te tNil))) σ Hb (fun d => ∃ k : Int, d = .int k ∧ 0 ≤ k ∧ k < many) := fun n H e hp pn hn Q q =>
  ⟨_, hi, h H e _ fun v Hb' H' k hv => by
    cases hv
    have pn' := pn.ex_ k.cur
    have kp := k.pen pn.live
    have hp' := kp.hidP hp pn.live
    refine ⟨p, cl, many, n, rfl, h1, h2, pn', by omega, fun m H2 m1 m2 pn2 ex2 => q (.int m) (.int m) Hb' H2 ⟨m, rfl, m1, m2⟩ (kp.trans ⟨ex2, Evl.Ex.refl _, exc_ex ex2 hp' k.sub, fun a o z => .inl (by rw [z]; exact Option.some_ne_none _), pn2.live⟩) pn2 (.int m)⟩⟩
theorem EvP.pad (h : EvP K p cl c te σ Hb R) (hc : c ≤ c2) : EvP K p cl c2 te σ Hb R := fun n H e hp pn hn Q q => h n H e hp pn (by omega) Q fun d v Hb' H' r k pn' hv => q d v Hb' H' r k (pn'.mono (by omega)) hv
theorem EvP.imp (h : EvP K p cl c te σ Hb R) (hr : ∀ d, R d → R2 d) : EvP K p cl c te σ Hb R2 := fun n H e hp pn hn Q q => h n H e hp pn hn Q fun d v Hb' H' r k pn' hv => q d v Hb' H' (hr d r) k pn' hv
/-- xs[e], e draws -/
theorem evp_ixL (ha : EvD K ta σ Hb (.list ds)) (hb : ∀ Hc, Ex Hb Hc → EvP K p cl c tb σ Hc R) (hr : ∀ d, R d → ∃ i x, d = .int i ∧ atI ds i = some x ∧ R2 x) : EvP K p cl c (tOp (rIxL K) ta tb) σ Hb R2 := fun n H e hp pn hn Q q =>
  ha H e _ fun u H1 H2 k1 hu => by
    have kp := k1.pen pn.live
    have hp1 := kp.hidP hp pn.live
    refine hb H1 k1.bas n H2 k1.sub hp1 (pn.ex_ k1.cur) hn _ fun d v H3 H4 r k2 pn2 hv => ?_
    obtain ⟨i, x, rfl, hx, hR⟩ := hr d r
    cases hv
    cases hu with
    | lst hs hall =>
      obtain ⟨y, hy, hyd⟩ := atI_dp hall hx
      exact ⟨_, _, i, y, rfl, rfl, Evl.ex_l (k2.bas.trans k2.sub) hs, hy, q x y H3 H4 hR (kp.trans k2) pn2 (dp_mono k2.bas _ _ hyd)⟩
theorem sp_set {H : Hp} {D : Ends} {i n : Nat} (h : EvP K p cl c te σ Hb R) (e : Ex Hb H) (hp : Hb p = none) (pn : Pen n H p cl) (hn : n + c ≤ 10000) (k : ∀ d v Hb' H', R d → KnP p Hb H Hb' H' → Pen (n + c) H' p cl → Dp K Hb' v d → D.nx (σ.set i (some v)) H') : tAsg te (gName i) D σ H := h n H e hp pn hn _ k
end
/-! _law_names -/
def strsV (l : List Nat) : List V := (l.map thN).map V.str
def spNamesL : Sp := fun vs H Q _ => ∃ (p cl : Addr) (many n : Nat), vs = [.ref p, .int many] ∧ 1 ≤ many ∧ many ≤ 3 ∧ Pen n H p cl ∧ n + 3 ≤ 10000 ∧
  ∀ (l : List Nat) (r : Addr) (H' : Hp), l.length = many → l.Pairwise (· < ·) → (∀ i ∈ l, i < 13) → Pen (n + 3) H' p cl → H r = none → Exc p H H' → H' r = some (.lst (strsV l)) → Q (.ref r) H'
abbrev N_Lnames : List Str := ["_law_pen_here", "_law_many_here", "_law_some", "_law_k"]
abbrev P_Lnames : List Str := ["_law_pen_here", "_law_many_here"]
theorem sc_Lnames : FnScope N_Lnames P_Lnames (defScope s_Lnames) := ⟨rfl, rfl, rfl, by decide +kernel, rfl, by decide +kernel, by decide +kernel⟩
theorem q_bm (K : PySem.W.Frag) {X : Cx} {o e : Expr} {es : List Expr} {to : TE} {t : TA} {name : Str} {apos cpos : Pos} {id : String} {r : V → List V → Hp → VK → Prop} (slot : Slot "list" name id) (hty : typeOf (.builtin id) = pure (.type "method_descriptor")) (hm : MtR X id r) (ho : PE X o to) (ha : PA X (e :: es) t) (hK : X.K = K := by rfl)
    (hbase : attributeBase o name X.env (eval o X.env) = eval o X.env := by rfl)
    (hfew : ((backTo cpos (starEach (e :: es) X.env)).all (fun x => !x.1) && (backToKw cpos (keywordEach [] X.env)).all (fun x => x.1.isSome)
      && decide ((e :: es).length + ([] : List Keyword).length + (if ([] : List Keyword).isEmpty then 0 else 1) < 30)) = true := by rfl)
    (hline : (apos.endLine == cpos.line) = true := by rfl) (hs : starEach (e :: es) X.env = (false, eval e X.env) :: starEach es X.env := by rfl) (hplain : (backTo cpos (starEach es X.env)).any (·.1) = false := by rfl) :
    PE X (.Call (.Attribute o name apos) (e :: es) [] cpos) (tBM K "list" r to t) := by
  subst hK
  exact pe_bm PySem.F.plainAttrs_list slot hty hm ho ha hbase hfew hline hs hplain
theorem strictly {l : List Nat} (h : l.Nodup) : (sortN l).Pairwise (· < ·) := by
  have h1 := sortN_sorted l
  have h2 : (sortN l).Nodup := (sortN_perm l).nodup_iff.mpr h
  refine List.Pairwise.imp₂ (fun a b q1 q2 => ?_) h1 h2
  have : a ≤ b := of_decide_eq_true q1
  omega
theorem perm_erase : ∀ (l : List Nat) (k : Nat) (h : k < l.length), ([l[k]] ++ l.eraseIdx k).Perm l
  | [], k, h => absurd h (Nat.not_lt_zero _)
  | a :: l, 0, _ => .refl _
  | a :: l, k + 1, h => by
    have h' : k < l.length := Nat.lt_of_succ_lt_succ h
    show (l[k] :: a :: l.eraseIdx k).Perm (a :: l)
    exact (List.Perm.swap a l[k] _).trans ((perm_erase l k h').cons a)
theorem ok_Lnames (F : FnP K "_law_names" s_Lnames f fd) (B : Bi mg) (K1 : Kept P w K mg base "_law_draw" 1 ["_law_pen_here", "_law_many_here"] spDraw f1 fd1) : FnOk P w K mg base CX0 2 f fd P_Lnames spNamesL := by
  refine F.ok sc_Lnames (fun vs H Q E h => by obtain ⟨p, cl, many, n, rfl, _⟩ := h; rfl) (fun cdv A outer s H vs Q E hr h => ?_)
  obtain ⟨p, cl, many, n, rfl, m1, m3, pn, hn, q⟩ := h
  refine ⟨_, PSs.nox (pss_cons (ps_set (i := 2) sc_Lnames.nd rfl (Or.inr rfl) (pe_lst (pa_cons pe_str (pa_cons pe_str (pa_cons pe_str (pa_cons pe_str (pa_cons pe_str (pa_cons pe_str (pa_cons pe_str (pa_cons pe_str (pa_cons pe_str (pa_cons pe_str (pa_cons pe_str (pa_cons pe_str (pa_cons pe_str pa_nil)))))))))))))))
    (pss_one (ps_ret (p_sorted K B hr.units (p_lc (own := [("_law_k", 3)]) (j := 3) rfl sc_Lnames.nd rfl (pi_range1 rfl B.range (pa_cons (pv 1) pa_nil)) (blkOk_by (N := N_Lnames) (sc := defScope s_Lnames) (by decide +kernel))
      (fun _ _ _ _ _ => q_bm K PySem.F.slot_list_pop PySem.F.type_list_pop mt_popAt (pv 2) (pa_cons (p_call K1 hr (pa_cons (pv 0) (pa_cons (p_len K B (pv 2)) pa_nil))) pa_nil))))))), ?_⟩
  refine ⟨by exact Evl.sz_of (by exact (by decide : 13 ≤ 100000)), fun ps hps => ?_⟩
  have einit : ([.str "a", .str "aa", .str "ab", .str "b", .str "ba", .str "c", .str "d", .str "e", .str "zz", .str "zzzzzzzz", .str "m", .str "ma", .str "n"] : List V) = strsV thAs := by decide +kernel
  have e1 : Ex H (upd H ps (.lst (strsV thAs))) := Evl.Ex.new hps
  have hps1 : upd H ps (.lst (strsV thAs)) ps = some (.lst (strsV thAs)) := upd_same
  have hpp : p ≠ ps := fun z => by rw [← z] at hps; exact pn.live hps
  dsimp only [gName]
  show tRet _ _ _ (upd H ps (.lst [.str "a", .str "aa", .str "ab", .str "b", .str "ba", .str "c", .str "d", .str "e", .str "zz", .str "zzzzzzzz", .str "m", .str "ma", .str "n"]))
  rw [einit]
  have pn1 := pn.ex_ e1
  have hpsN := hps
  have hclN : H cl ≠ none := pn.liveC
  generalize upd H ps (.lst (strsV thAs)) = H1 at e1 hps1 pn1
  refine ⟨_, rfl, (many : Int), rfl, by omega, by omega, fun D hD => ?_⟩
  have hDps : D ≠ ps := fun z => by rw [z, hps1] at hD; cases hD
  have hDp : D ≠ p := fun z => by rw [z] at hD; exact pn1.live hD
  have hHD : H D = none := none_back e1 hD
  refine ⟨fun i m H' => m = many - i ∧ i ≤ many ∧ ∃ acc rem : List Nat, (acc ++ rem).Perm thAs ∧ acc.length = i ∧ H' D = some (.lst (strsV acc)) ∧ H' ps = some (.lst (strsV rem)) ∧ Pen (n + i) H' p cl ∧ Exc p H H', ⟨many, by simp, Nat.zero_le _, [], thAs, .refl _, rfl, upd_same, by rw [upd_ne hDps.symm]; exact hps1, pn1.ex_ (Evl.Ex.new hD), fun c o hc z => by
    rw [upd_ne (fun y => by rw [y, hHD] at z; cases z)]; exact e1 _ _ z⟩, ?_⟩
  rintro i m H' ⟨rfl, hi, acc, rem, hperm, hal, hDl, hpl, pn', hex⟩
  have hlen : acc.length + rem.length = 13 := by have := hperm.length_eq; rw [List.length_append] at this; exact this
  by_cases hlt : i < many
  · refine .inr ⟨by show i < ((many : Int)).toNat; omega, fun H' => ∃ acc rem : List Nat, (acc ++ rem).Perm thAs ∧ acc.length = i + 1 ∧ H' D = some (.lst (strsV acc)) ∧ H' ps = some (.lst (strsV rem)) ∧ Pen (n + (i + 1)) H' p cl ∧ Exc p H H', fun H3 z => ⟨many - (i + 1), by omega, rfl, hlt, z⟩, fun x H3 y => ?_⟩
    obtain ⟨eH, -⟩ := y
    subst eH
    refine ⟨rfl, ?_⟩
    have hrl : (strsV rem).length = rem.length := by unfold strsV; rw [List.length_map, List.length_map]
    refine ⟨.ref ps, rfl, .inl ⟨rfl, _, .inl (.inl hpl)⟩, .ref p, rfl, .ref ps, rfl, .ref ps, rem.length, rfl, .inl ⟨_, .inl (.inl hpl), hrl.symm⟩, p, cl, rem.length, n + i, rfl, by omega, by omega, pn', by omega, fun k H4 k0 k1 pn4 ex4 => ?_⟩
    have hk : k.toNat < rem.length := by omega
    have hpl4 := ex4 _ _ hpp.symm hpl
    have hDl4 := ex4 _ _ hDp hDl
    refine ⟨ps, strsV rem, k, k.toNat, .str (thN rem[k.toNat]), rfl, rfl, hpl4, by omega, by omega, ?_, ?_, strsV acc, by rw [upd_ne hDps]; exact hDl4, ?_, acc ++ [rem[k.toNat]], rem.eraseIdx k.toNat, ?_, by rw [List.length_append, List.length_singleton, hal], ?_, ?_, ?_, ?_⟩
    · rw [hrl]
      unfold seqIndex?
      have : ¬ k < 0 := by omega
      simp only [this, if_false]
      simp [k0, k1]
    · unfold strsV
      rw [List.getElem?_map, List.getElem?_map, List.getElem?_eq_getElem hk]
      rfl
    · have : (strsV acc).length = acc.length := by unfold strsV; rw [List.length_map, List.length_map]
      exact Evl.sz_lt (by omega)
    · refine List.Perm.trans ?_ hperm
      rw [List.append_assoc]
      exact (perm_erase rem k.toNat hk).append_left acc
    · rw [upd_same]
      unfold strsV
      simp
    · rw [upd_ne hDps.symm, upd_same]
      unfold strsV
      rw [map_erase, map_erase]
    · obtain ⟨ns, a, l, q1, q2, q3⟩ := (show Pen (n + i + 1) H4 p cl from pn4).ex
      have clD : cl ≠ D := fun y => hclN (by rw [y]; exact hHD)
      have clS : cl ≠ ps := fun y => hclN (by rw [y]; exact hpsN)
      refine ⟨ns, a, l, by rw [upd_ne hDp.symm, upd_ne hpp]; exact q1, by rw [upd_ne clD, upd_ne clS]; exact q2, q3.1, q3.2.1, by have := q3.2.2; push_cast at *; omega⟩
    · intro c o hc z
      have c1 : c ≠ D := fun y => by rw [y, hHD] at z; cases z
      have c2 : c ≠ ps := fun y => by rw [y, hpsN] at z; cases z
      rw [upd_ne c1, upd_ne c2]
      exact ex4 c o hc (hex c o hc z)
  · have e2 : i = many := by omega
    subst e2
    have emp : Ex (fun _ => none) H' := fun c o z => (nomatch z)
    have hnd : acc.Nodup := by
      have h1 : (acc ++ rem).Nodup := hperm.nodup_iff.mpr (by decide)
      exact (List.nodup_append.mp h1).1
    have h13 : ∀ x ∈ acc, x < 13 := fun x hx => by
      have h1 : x ∈ thAs := hperm.mem_iff.mp (List.mem_append_left _ hx)
      have h2 : ∀ y ∈ thAs, y < 13 := by decide
      exact h2 x h1
    refine .inl ⟨by show ((i : Int)).toNat ≤ i; omega, D, strsV acc, acc.map (nmD thN), fun _ => none, rfl, .inl (.inl hDl), emp, ?_, nm_alike acc, nm_sortable acc, nm_flat acc, fun ys r hr hy => ?_⟩
    · have := dpAll_ofStrs (K := K) (H := fun _ => none) (acc.map thN)
      rw [show sts (acc.map thN) = acc.map (nmD thN) from nms_eq acc] at this
      exact this
    · rw [sort_nm th_nu, ← nms_eq] at hy
      have ey : ys = strsV (sortN acc) := dpAll_strs hy
      subst ey
      have hHr : H r = none := exc_back hex pn'.live hr
      have hrp : r ≠ p := fun y => by rw [y] at hr; exact pn'.live hr
      refine q (sortN acc) r _ (by rw [(sortN_perm acc).length_eq, hal]) (strictly hnd) (fun x hx => h13 x ((sortN_perm acc).mem_iff.mp hx)) ((pn'.mono (by omega)).ex_ (Evl.Ex.new hr)) hHr (fun c o hc z => ?_) upd_same
      rw [upd_ne (fun y => by rw [y, hHr] at z; cases z)]
      exact hex c o hc z
end
end Jt

set_option Elab.async false
set_option linter.all false
set_option maxRecDepth 100000
set_option maxHeartbeats 1000000
/-! _law_tree: any tree on the names. -/
namespace Jt
open PySem PySem.Spec PyProof.Rows L2 PySem.W
theorem beqT_iff : ∀ a b : T, beqT a b = true ↔ a = b
  | .leaf i, .leaf j => by
    show Nat.beq i j = true ↔ _
    exact ⟨fun h => by rw [Nat.eq_of_beq_eq_true h], fun h => by injection h with h; rw [h]; exact Nat.beq_refl j⟩
  | .leaf _, .fork _ _ => ⟨fun h => Bool.noConfusion h, fun h => T.noConfusion h⟩
  | .fork _ _, .leaf _ => ⟨fun h => Bool.noConfusion h, fun h => T.noConfusion h⟩
  | .fork a b, .fork c d => by
    show (beqT a c && beqT b d) = true ↔ _
    rw [Bool.and_eq_true, beqT_iff a c, beqT_iff b d]
    exact ⟨fun h => by rw [h.1, h.2], fun h => by injection h with h1 h2; exact ⟨h1, h2⟩⟩
instance decT : DecidableEq T := fun a b => if h : beqT a b = true then isTrue ((beqT_iff a b).mp h) else isFalse fun e => h ((beqT_iff a b).mpr e)
theorem KnP.own {p a : Addr} {Hb H Hc H' : Hp} {o : HO} (k : KnP p Hb H Hc H') (h1 : H a = none) (h2 : Hc a = none) (hp : a ≠ p) : KnP p Hb H Hc (upd H' a o) :=
  ⟨fun c u hc z => by rw [upd_ne (fun y => by rw [y, h1] at z; cases z)]; exact k.exc c u hc z, k.bas, ex_hid k.sub h2, k.nw, by rw [upd_ne hp.symm]; exact k.live⟩
theorem KnP.exc' {p : Addr} {Hb H Hc H' H2 : Hp} (k : KnP p Hb H Hc H') (e : Exc p H' H2) (h : Hc p = none) (l : H2 p ≠ none) : KnP p Hb H Hc H2 :=
  ⟨fun c u hc z => e c u hc (k.exc c u hc z), k.bas, exc_ex e h k.sub, k.nw, l⟩
theorem KnP.back {p a : Addr} {Hb H Hc H' : Hp} (k : KnP p Hb H Hc H') (h : H' a = none) : H a = none := exc_back k.exc k.live h
theorem KnP.refl {p : Addr} {Hb H : Hp} (e : Ex Hb H) (l : H p ≠ none) : KnP p Hb H Hb H := ⟨fun _ _ _ z => z, Evl.Ex.refl _, e, fun a o z => .inl (by rw [z]; exact Option.some_ne_none _), l⟩
theorem Pen.own {n : Nat} {H : Hp} {p cl a : Addr} {o : HO} (h : Pen n H p cl) (h1 : a ≠ p) (h2 : a ≠ cl) : Pen n (upd H a o) p cl := by
  obtain ⟨ns, x, l, q1, q2, q3⟩ := h.ex
  exact ⟨ns, x, l, by rw [upd_ne h1.symm]; exact q1, by rw [upd_ne h2.symm]; exact q2, q3⟩
/-- all trees on the first n names, n at most 3 -/
def allT : Nat → List T
  | 1 => [.leaf 0]
  | 2 => [.fork (.leaf 0) (.leaf 1)]
  | 3 => [.fork (.fork (.leaf 0) (.leaf 1)) (.leaf 2), .fork (.fork (.leaf 0) (.leaf 2)) (.leaf 1), .fork (.leaf 0) (.fork (.leaf 1) (.leaf 2))]
  | _ => []
/-- what stands left, in the making -/
def stT : Nat → List (List T)
  | 1 => [[.leaf 0]]
  | 2 => [[.leaf 0, .leaf 1], [.fork (.leaf 0) (.leaf 1)]]
  | 3 => [[.leaf 0, .leaf 1, .leaf 2], [.leaf 2, .fork (.leaf 0) (.leaf 1)], [.leaf 1, .fork (.leaf 0) (.leaf 2)], [.leaf 0, .fork (.leaf 1) (.leaf 2)],
      [.fork (.fork (.leaf 0) (.leaf 1)) (.leaf 2)], [.fork (.fork (.leaf 0) (.leaf 2)) (.leaf 1)], [.fork (.leaf 0) (.fork (.leaf 1) (.leaf 2))]]
  | _ => []
def nextT (s : List T) (i j : Nat) : List T := (s.eraseIdx i).eraseIdx j ++ [forkN (s.getD i (.leaf 0)) ((s.eraseIdx i).getD j (.leaf 0))]
def chkN (n : Nat) : Bool := (stT n).all fun s => (List.range s.length).all fun i => (List.range (s.length - 1)).all fun j => decide (nextT s i j ∈ stT n) || decide (s.length < 2)
def chkE (n : Nat) : Bool := (stT n).all fun s => (decide (2 ≤ s.length) || (decide (s.length = 1) && decide (s.getD 0 (.leaf 0) ∈ allT n))) && decide (s.length ≤ 3)
theorem chk_all : ((List.range 4).all fun n => chkN n && chkE n) = true := by decide +kernel
theorem chk_at {n : Nat} (h : n ≤ 3) : chkN n = true ∧ chkE n = true := by
  have := List.all_eq_true.mp chk_all n (List.mem_range.mpr (by omega))
  exact Bool.and_eq_true_iff.mp this
theorem next_in {n : Nat} (hn : n ≤ 3) {s : List T} (hs : s ∈ stT n) (h2 : 2 ≤ s.length) {i j : Nat} (hi : i < s.length) (hj : j < s.length - 1) : nextT s i j ∈ stT n := by
  have h1 := List.all_eq_true.mp (chk_at hn).1 s hs
  have h3 := List.all_eq_true.mp (List.all_eq_true.mp h1 i (List.mem_range.mpr hi)) j (List.mem_range.mpr hj)
  rcases Bool.or_eq_true_iff.mp h3 with z | z
  · exact of_decide_eq_true z
  · have := of_decide_eq_true z; omega
theorem end_in {n : Nat} (hn : n ≤ 3) {s : List T} (hs : s ∈ stT n) (h2 : s.length < 2) : s.length = 1 ∧ s.getD 0 (.leaf 0) ∈ allT n := by
  have h1 := (Bool.and_eq_true_iff.mp (List.all_eq_true.mp (chk_at hn).2 s hs)).1
  rcases Bool.or_eq_true_iff.mp h1 with z | z
  · have := of_decide_eq_true z; omega
  · obtain ⟨a, b⟩ := Bool.and_eq_true_iff.mp z
    exact ⟨of_decide_eq_true a, of_decide_eq_true b⟩
theorem st_len {n : Nat} (hn : n ≤ 3) {s : List T} (hs : s ∈ stT n) : s.length ≤ 3 := of_decide_eq_true (Bool.and_eq_true_iff.mp (List.all_eq_true.mp (chk_at hn).2 s hs)).2
theorem st_init {n : Nat} (hn : n ≤ 3) (h1 : 1 ≤ n) : ((List.range n).map T.leaf) ∈ stT n := by
  match n, hn, h1 with
  | 1, _, _ => decide +kernel
  | 2, _, _ => decide +kernel
  | 3, _, _ => decide +kernel
section
variable {P : Program} {w : World} {K : PySem.W.Frag} {mg : Str → Option Value} {base : Heap} {f f1 f2 f3 f4 : Addr} {fd fd1 fd2 fd3 fd4 : FuncData} {nu : Nat → Str}
def Pk (left : List T) : Nat → List T → List T → Prop
  | 0, l, p => l = left ∧ p = []
  | 1, l, p => ∃ a, a < left.length ∧ l = left.eraseIdx a ∧ p = [left.getD a (.leaf 0)]
  | _, l, p => ∃ a b, a < left.length ∧ b < left.length - 1 ∧ l = (left.eraseIdx a).eraseIdx b ∧ p = [left.getD a (.leaf 0), (left.eraseIdx a).getD b (.leaf 0)]
theorem pk_len {left : List T} (h2 : 2 ≤ left.length) : ∀ {i : Nat} {l p : List T}, i ≤ 2 → Pk left i l p → l.length + i = left.length ∧ p.length = i
  | 0, l, p, _, ⟨e1, e2⟩ => by subst e1; subst e2; exact ⟨rfl, rfl⟩
  | 1, l, p, _, ⟨a, ha, e1, e2⟩ => by subst e1; subst e2; rw [List.length_eraseIdx_of_lt ha]; exact ⟨by omega, rfl⟩
  | 2, l, p, _, ⟨a, b, ha, hb, e1, e2⟩ => by
    subst e1; subst e2
    have h3 : (left.eraseIdx a).length = left.length - 1 := List.length_eraseIdx_of_lt ha
    rw [List.length_eraseIdx_of_lt (by omega), h3]
    exact ⟨by omega, rfl⟩
theorem pk_step {left : List T} {i k : Nat} {l p : List T} (hi : i < 2) (h : Pk left i l p) (hk : k < l.length) : Pk left (i + 1) (l.eraseIdx k) (p ++ [l.getD k (.leaf 0)]) := by
  match i, hi, h with
  | 0, _, ⟨e1, e2⟩ => subst e1; subst e2; exact ⟨k, hk, rfl, rfl⟩
  | 1, _, ⟨a, ha, e1, e2⟩ =>
    subst e1; subst e2
    rw [List.length_eraseIdx_of_lt ha] at hk
    exact ⟨a, k, ha, hk, rfl, rfl⟩
def spTreeL (K : PySem.W.Frag) (nu : Nat → Str) : Sp := fun vs H Q _ => ∃ (p cl : Addr) (n N0 : Nat) (Hb : Hp) (v : V), vs = [.ref p, v, .int 0] ∧ Ex Hb H ∧ Hb p = none ∧ Pen n H p cl ∧ n + 12 ≤ 10000 ∧ 1 ≤ N0 ∧ N0 ≤ 3 ∧ Dp K Hb v (nmsD nu (List.range N0)) ∧
  ∀ t u Hb' H', t ∈ allT N0 → KnP p Hb H Hb' H' → Pen (n + 12) H' p cl → Dp K Hb' u (treeD nu t) → Q u H'
abbrev N_Ltree : List Str := ["_law_pen_here", "_law_names_here", "_law_wide", "_law_left", "_law_many_here", "_law_parts", "_law_k"]
abbrev P_Ltree : List Str := ["_law_pen_here", "_law_names_here", "_law_wide"]
theorem sc_Ltree : FnScope N_Ltree P_Ltree (defScope s_Ltree) := ⟨rfl, rfl, rfl, by decide +kernel, rfl, by decide +kernel, by decide +kernel⟩
theorem ok_Ltree (N : Nu nu) (F : FnP K "_law_tree" s_Ltree f fd) (B : Bi mg) (K1 : Kept P w K mg base "_law_draw" 1 ["_law_pen_here", "_law_many_here"] spDraw f1 fd1) (K2 : Kept P w K mg base "_law_fork" 2 ["_law_parts"] (spForkOf K nu) f2 fd2) : FnOk P w K mg base CX0 3 f fd P_Ltree (spTreeL K nu) := by
  refine F.ok sc_Ltree (fun vs H Q E h => by obtain ⟨p, cl, n, N0, Hb, v, rfl, _⟩ := h; rfl) (fun cdv A outer s H vs Q E hr h => ?_)
  obtain ⟨p, cl, n, N0, Hb, vn, rfl, e, hp, pn, hn, m1, m3, hnm, q⟩ := h
  refine ⟨_, PSs.nox (pss_cons (ps_set (i := 3) sc_Ltree.nd rfl (Or.inl rfl) (p_list K B (pv 1)))
    (pss_cons (ps_while PassesOwn.never (pt_cmpR op_gt (p_len K B (pv 3)) pe_int (nomark _))
      (pss_cons (ps_set (i := 4) sc_Ltree.nd rfl (Or.inl rfl) (pe_op op_add pe_int (pe_op op_mul (pv 2) (pe_ix (q_ixL K) (pe_lst (pa_cons pe_int (pa_cons pe_int (pa_cons pe_int (pa_cons (p_call K1 hr (pa_cons (pv 0) (pa_cons pe_int pa_nil))) pa_nil))))) (p_call K1 hr (pa_cons (pv 0) (pa_cons pe_int pa_nil))) (fun _ _ => rfl)))))
      (pss_cons (ps_set (i := 5) sc_Ltree.nd rfl (Or.inl rfl) (pe_lst pa_nil))
      (pss_cons (ps_for PassesOwn.never rfl (pi_range1 rfl B.range (pa_cons (pe_callB (call_min2 rfl) rfl B.min boot_min (pa_cons (pv 4) (pa_cons (p_len K B (pv 3)) pa_nil))) pa_nil)) (pg_name (i := 6) sc_Ltree.nd rfl (Or.inl rfl))
        (pss_one (ps_expr (q_bm K PySem.F.slot_list_append PySem.F.type_list_append mt_append (pv 5) (pa_cons (q_bm K PySem.F.slot_list_pop PySem.F.type_list_pop mt_popAt (pv 3) (pa_cons (pe_ix (q_ixL K) (pe_lst (pa_cons (p_call K1 hr (pa_cons (pv 0) (pa_cons (p_len K B (pv 3)) pa_nil))) (pa_cons (pe_un un_neg pe_int) pa_nil))) (p_call K1 hr (pa_cons (pv 0) (pa_cons pe_int pa_nil))) (fun _ _ => rfl)) pa_nil)) pa_nil)))))
      (pss_one (ps_expr (q_bm K PySem.F.slot_list_append PySem.F.type_list_append mt_append (pv 3) (pa_cons (p_call K2 hr (pa_cons (pv 5) pa_nil)) pa_nil))))))))
    (pss_one (ps_ret (pe_ix (q_ixL K) (pv 3) pe_int (fun _ _ => rfl)))))), ?_⟩
  refine sd_setN (K := K) (Hb := Hb) (ds := (List.range N0).map (nmD nu)) (e_list (evd_var rfl hnm) (.inl rfl)) e fun pl xl Hc H1 k1 l1 l2 l3 l4 => ?_
  have kp1 := k1.pen pn.live
  have l4' : DpAll K Hc xl (((List.range N0).map T.leaf).map (treeD nu)) := by rw [List.map_map]; exact l4
  have hplp : pl ≠ p := fun y => by rw [y] at l1; exact pn.live l1
  have hplcl : pl ≠ cl := fun y => by rw [y] at l1; exact pn.liveC l1
  refine ⟨fun m σ' H' => ∃ Hd xs left c4 c5 c6 cnt, σ' = [some (.ref p), some vn, some (.int 0), some (.ref pl), c4, c5, c6] ∧ KnP p Hb H Hd H' ∧ Hd pl = none ∧ H' pl = some (.lst xs) ∧ DpAll K Hd xs (left.map (treeD nu)) ∧ left ∈ stT N0 ∧ m = left.length ∧ cnt + 6 * (left.length - 1) ≤ n + 12 ∧ Pen cnt H' p cl,
    ⟨N0, Hc, xl, (List.range N0).map T.leaf, none, none, none, n, rfl, kp1, l2, l3, l4', st_init m3 m1, by simp, by rw [List.length_map, List.length_range]; omega, pn.ex_ k1.cur⟩, ?_⟩
  rintro m σ' H' ⟨Hd, xs, left, c4, c5, c6, cnt, rfl, kp, hdl, hpl, hxs, hst, rfl, hcnt, pn'⟩
  have hlen := st_len m3 hst
  have hxl : xs.length = left.length := by rw [dpAll_len hxs, List.length_map]
  have hdp : Hd p = none := kp.hidP hp pn.live
  have lenI : EvI (tCB (rLenX K) (tCons (tVar 3) tNil)) [some (.ref p), some vn, some (.int 0), some (.ref pl), c4, c5, c6] H' (left.length : Int) := fun Q2 q2 => ⟨_, rfl, .ref pl, left.length, rfl, .inl ⟨xs, .inl (.inl hpl), hxl.symm⟩, q2⟩
  refine evc_gt lenI evi_int _ ?_
  refine ite2 (fun z => ?_) fun z => ?_
  · have h2 : 2 ≤ left.length := by have := of_decide_eq_true z; omega
    refine ⟨_, fun _ _ h => h, ?_⟩
    -- how many
    refine ⟨.int 0, rfl, .ref p, rfl, p, cl, 3, cnt, rfl, by decide, by decide, pn', by omega, fun k H2 k0 k3 pn2 ex2 => ⟨Evl.sz_of (by exact (by decide : 4 ≤ 100000)), fun pL hpL => ?_⟩⟩
    have kp2 := kp.exc' ex2 hdp pn2.live
    have h2pl := ex2 _ _ hplp hpl
    have nLp : pL ≠ p := fun y => by rw [y] at hpL; exact pn2.live hpL
    have nLcl : pL ≠ cl := fun y => by rw [y] at hpL; exact pn2.liveC hpL
    have nLpl : pl ≠ pL := fun y => by rw [← y, h2pl] at hpL; cases hpL
    have kp3 := kp2.own (o := .lst [.int 0, .int 0, .int 1, .int k]) (kp2.back hpL) (none_back kp2.sub hpL) nLp
    have pn3 := pn2.own (o := .lst [.int 0, .int 0, .int 1, .int k]) nLp nLcl
    have h3pl : upd H2 pL (.lst [.int 0, .int 0, .int 1, .int k]) pl = some (.lst xs) := by rw [upd_ne nLpl]; exact h2pl
    have h3pL : upd H2 pL (.lst [.int 0, .int 0, .int 1, .int k]) pL = some (.lst [.int 0, .int 0, .int 1, .int k]) := upd_same
    generalize upd H2 pL (.lst [.int 0, .int 0, .int 1, .int k]) = H3 at kp3 pn3 h3pl h3pL
    refine ⟨.ref p, rfl, p, cl, 4, cnt + 1, rfl, by decide, by decide, pn3, by omega, fun j H4 j0 j1 pn4 ex4 => ?_⟩
    have kp4 := kp3.exc' ex4 hdp pn4.live
    have h4pl := ex4 _ _ hplp h3pl
    obtain ⟨xi, hxi⟩ : ∃ xi : Int, atI ([.int 0, .int 0, .int 1, .int k] : List V) j = some (.int xi) := by
      have hj : j.toNat < [(0 : Int), 0, 1, k].length := by show j.toNat < 4; omega
      exact ⟨[(0 : Int), 0, 1, k][j.toNat], atI_map V.int (xs := [(0 : Int), 0, 1, k]) (j := j.toNat) (List.getElem?_eq_getElem hj) (by omega)⟩
    refine ⟨pL, _, j, .int xi, rfl, rfl, .inl (.inl (ex4 _ _ nLp h3pL)), hxi, 0, xi, rfl, rfl, .inl ⟨by decide, by decide⟩, 2, 0 * xi, rfl, rfl, ?_⟩
    rw [Int.zero_mul]
    -- the parts
    refine ⟨Nat.zero_le _, fun pp hpp => ?_⟩
    have nPp : pp ≠ p := fun y => by rw [y] at hpp; exact pn4.live hpp
    have nPcl : pp ≠ cl := fun y => by rw [y] at hpp; exact pn4.liveC hpp
    have nPpl : pl ≠ pp := fun y => by rw [← y, h4pl] at hpp; cases hpp
    have hHpp := kp4.back hpp
    have hDpp := none_back kp4.sub hpp
    have kp5 := kp4.own (o := .lst []) hHpp hDpp nPp
    have pn5 := pn4.own (o := .lst []) nPp nPcl
    have h5pl : upd H4 pp (.lst []) pl = some (.lst xs) := by rw [upd_ne nPpl]; exact h4pl
    have h5pp : upd H4 pp (.lst []) pp = some (.lst []) := upd_same
    generalize upd H4 pp (.lst []) = H5 at kp5 pn5 h5pl h5pp
    have hmin : (if (left.length : Int) < 2 + 0 then (left.length : Int) else 2 + 0) = 2 := if_neg (by omega)
    refine ⟨_, rfl, _, rfl, .ref pl, left.length, rfl, .inl ⟨xs, .inl (.inl h5pl), hxl.symm⟩, 2 + 0, left.length, rfl, ?_⟩
    rw [hmin]
    refine ⟨2, rfl, by decide, by decide, fun i m σ' H' => m = 2 - i ∧ i ≤ 2 ∧ ∃ xs' left' ps picks c6, σ' = [some (.ref p), some vn, some (.int 0), some (.ref pl), some (.int (2 + 0)), some (.ref pp), c6] ∧ KnP p Hb H Hd H' ∧ H' pl = some (.lst xs') ∧ DpAll K Hd xs' (left'.map (treeD nu)) ∧ H' pp = some (.lst ps) ∧ DpAll K Hd ps (picks.map (treeD nu)) ∧ Pen (cnt + 2 + 2 * i) H' p cl ∧ Pk left i left' picks,
      ⟨2, rfl, Nat.zero_le _, xs, left, [], [], c6, rfl, kp5, h5pl, hxs, h5pp, .nil, pn5, rfl, rfl⟩, ?_⟩
    rintro i m σ' H6 ⟨rfl, hi, xs', left', ps, picks, c6', rfl, kp6, h6pl, hxs', h6pp, hps, pn6, hpk⟩
    have hpl2 := pk_len h2 hi hpk
    have hxl' : xs'.length = left'.length := by rw [dpAll_len hxs', List.length_map]
    have hpsl : ps.length = picks.length := by rw [dpAll_len hps, List.length_map]
    by_cases hlt : i < 2
    · refine .inr ⟨by show i < (2 : Int).toNat; omega, fun σ3 H3 => ∃ xs' left' ps picks c6, σ3 = [some (.ref p), some vn, some (.int 0), some (.ref pl), some (.int (2 + 0)), some (.ref pp), c6] ∧ KnP p Hb H Hd H3 ∧ H3 pl = some (.lst xs') ∧ DpAll K Hd xs' (left'.map (treeD nu)) ∧ H3 pp = some (.lst ps) ∧ DpAll K Hd ps (picks.map (treeD nu)) ∧ Pen (cnt + 2 + 2 * (i + 1)) H3 p cl ∧ Pk left (i + 1) left' picks, fun σ3 H3 w => ⟨2 - (i + 1), by omega, rfl, hlt, w⟩, fun x H3 y => ?_⟩
      obtain ⟨eH, -⟩ := y
      subst eH
      refine ⟨.ref pp, rfl, .inl ⟨rfl, _, .inl (.inl h6pp)⟩, .ref pl, rfl, .inl ⟨rfl, _, .inl (.inl h6pl)⟩, .ref p, rfl, .ref pl, rfl, .ref pl, left'.length, rfl, .inl ⟨xs', .inl (.inl h6pl), hxl'.symm⟩, p, cl, left'.length, cnt + 2 + 2 * i, rfl, by omega, by omega, pn6, by omega, fun k2 H7 k20 k21 pn7 ex7 => ?_⟩
      refine ⟨1, rfl, Evl.sz_of (by exact (by decide : 2 ≤ 100000)), fun pM hpM => ?_⟩
      have kp7 := kp6.exc' ex7 hdp pn7.live
      have h7pl := ex7 _ _ hplp h6pl
      have h7pp := ex7 _ _ nPp h6pp
      have nMp : pM ≠ p := fun y => by rw [y] at hpM; exact pn7.live hpM
      have nMcl : pM ≠ cl := fun y => by rw [y] at hpM; exact pn7.liveC hpM
      have nMpl : pl ≠ pM := fun y => by rw [← y, h7pl] at hpM; cases hpM
      have nMpp : pp ≠ pM := fun y => by rw [← y, h7pp] at hpM; cases hpM
      have kp8 := kp7.own (o := .lst [.int k2, .int (-1)]) (kp7.back hpM) (none_back kp7.sub hpM) nMp
      have pn8 := pn7.own (o := .lst [.int k2, .int (-1)]) nMp nMcl
      have h8pl : upd H7 pM (.lst [.int k2, .int (-1)]) pl = some (.lst xs') := by rw [upd_ne nMpl]; exact h7pl
      have h8pp : upd H7 pM (.lst [.int k2, .int (-1)]) pp = some (.lst ps) := by rw [upd_ne nMpp]; exact h7pp
      have h8pM : upd H7 pM (.lst [.int k2, .int (-1)]) pM = some (.lst [.int k2, .int (-1)]) := upd_same
      generalize upd H7 pM (.lst [.int k2, .int (-1)]) = H8 at kp8 pn8 h8pl h8pp h8pM
      refine ⟨.ref p, rfl, p, cl, 2, cnt + 2 + 2 * i + 1, rfl, by decide, by decide, pn8, by omega, fun j2 H9 j20 j21 pn9 ex9 => ?_⟩
      have kp9 := kp8.exc' ex9 hdp pn9.live
      have h9pl := ex9 _ _ hplp h8pl
      have h9pp := ex9 _ _ nPp h8pp
      have hL : 0 < left'.length := by omega
      obtain ⟨ix, kx, hix, hb1, hb2, hsq, hkx⟩ : ∃ (ix : Int) (kx : Nat), atI ([.int k2, .int (-1)] : List V) j2 = some (.int ix) ∧ -(2 ^ 63) ≤ ix ∧ ix < 2 ^ 63 ∧ seqIndex? ix xs'.length = some kx ∧ kx < left'.length := by
        have hj : j2 = 0 ∨ j2 = 1 := by omega
        rcases hj with y | y
        · refine ⟨k2, k2.toNat, by rw [y]; exact atI_map V.int (xs := [k2, -1]) (j := 0) rfl rfl, by omega, by omega, ?_, by omega⟩
          unfold seqIndex?
          have h0 : ¬ k2 < 0 := by omega
          simp only [h0, if_false]
          rw [hxl']
          simp [k20, k21]
        · refine ⟨-1, left'.length - 1, by rw [y]; exact atI_map V.int (xs := [k2, -1]) (j := 1) rfl rfl, by omega, by omega, ?_, by omega⟩
          unfold seqIndex?
          rw [hxl']
          have h0 : (-1 : Int) < 0 := by decide
          simp only [h0, if_true]
          have h1 : (0 : Int) ≤ -1 + (left'.length : Int) := by omega
          have h3 : (-1 + (left'.length : Int)) < (left'.length : Int) := by omega
          simp only [decide_eq_true h1, decide_eq_true h3, Bool.and_self, if_true]
          congr 1
          omega
      have hy : xs'[kx]? = some xs'[kx] := List.getElem?_eq_getElem (by omega)
      refine ⟨pM, _, j2, .int ix, rfl, rfl, .inl (.inl (ex9 _ _ nMp h8pM)), hix, pl, xs', ix, kx, xs'[kx], rfl, rfl, h9pl, hb1, hb2, hsq, hy, pp, ps, xs'[kx], rfl, rfl, by rw [upd_ne nPpl.symm]; exact h9pp, Evl.sz_lt (by omega), xs'.eraseIdx kx, left'.eraseIdx kx, ps ++ [xs'[kx]], picks ++ [left'.getD kx (.leaf 0)], _, rfl, (kp9.own l1 hdl hplp).own hHpp hDpp nPp, ?_, ?_, upd_same, ?_, ?_, pk_step hlt hpk hkx⟩
      · rw [upd_ne nPpl, upd_same]
      · rw [map_erase]; exact dpAll_erase kx hxs'
      · rw [List.map_append]
        refine dpAll_app hps (dpAll_one ?_)
        obtain ⟨t, ht, hd⟩ := dpAll_getB hxs' hy
        rw [List.getD_eq_getElem?_getD, ht]
        exact hd
      · have := (pn9.own (o := .lst (xs'.eraseIdx kx)) hplp hplcl).own (o := .lst (ps ++ [xs'[kx]])) nPp nPcl
        exact this.mono (by omega)
    · have e2 : i = 2 := by omega
      subst e2
      refine .inl ⟨Nat.le_refl _, ?_⟩
      obtain ⟨a, b, ha, hb, el, ep⟩ := hpk
      have ow : Own K Hd H6 pp (picks.map (treeD nu)) := ⟨hDpp, ps, h6pp, hps⟩
      obtain ⟨Hs, s1, s2, s3, s4⟩ := ow.show_ kp6.sub
      have kps : KnP p Hb H Hs H6 := ⟨kp6.exc, kp6.bas.trans s1, s2, fun c o y => by
        rcases s4 c o y with y1 | y1
        · rw [y1]; exact .inr hHpp
        · exact kp6.nw c o y1, kp6.live⟩
      have hspl : Hs pl = none := by
        cases y : Hs pl with
        | none => rfl
        | some o =>
          rcases s4 pl o y with y1 | y1
          · exact absurd y1 nPpl
          · rw [hdl] at y1; cases y1
      have kc : EvD K (tCall (spForkOf K nu) [] E0 (tCons (tVar 5) tNil)) [some (.ref p), some vn, some (.int 0), some (.ref pl), some (.int (2 + 0)), some (.ref pp), c6'] Hs (treeD nu (forkOf picks)) :=
        evd_call (eva_cons (evd_var rfl s3) eva_nil) picks (by rw [ep]; exact ⟨_, .inr ⟨_, rfl⟩⟩) rfl
      refine sd_append (K := K) (Hb := Hs) (d := treeD nu (forkOf picks)) (p := pl) rfl h6pl (by omega) kc s2 fun u Hd2 H7 k7 hu => ?_
      have kp7 := kps.trans (k7.pen kp6.live)
      obtain ⟨g1, g2⟩ := k7.hid hspl h6pl
      refine ⟨left.length - 1, by omega, Hd2, xs' ++ [u], nextT left a b, some (.int (2 + 0)), some (.ref pp), c6', cnt + 6, rfl, kp7.own l1 g1 hplp, g1, upd_same, ?_, next_in m3 hst h2 ha hb, ?_, ?_, ?_⟩
      · show DpAll K Hd2 (xs' ++ [u]) (((left.eraseIdx a).eraseIdx b ++ [forkN (left.getD a (.leaf 0)) ((left.eraseIdx a).getD b (.leaf 0))]).map (treeD nu))
        rw [List.map_append, ← el]
        refine dpAll_app (dpAll_mono (s1.trans k7.bas) _ _ hxs') (dpAll_one ?_)
        rw [ep] at hu
        exact hu
      · show left.length - 1 = ((left.eraseIdx a).eraseIdx b ++ [_]).length
        rw [List.length_append, List.length_singleton, ← el]
        omega
      · have : (nextT left a b).length = left.length - 1 := by
          show ((left.eraseIdx a).eraseIdx b ++ [_]).length = _
          rw [List.length_append, List.length_singleton, ← el]
          omega
        rw [this]
        omega
      · exact ((pn6.ex_ k7.cur).own hplp hplcl).mono (by omega)
  · have h2 : left.length < 2 := by
      have h3 : ¬ ((left.length : Int) > 1) := fun y => z (decide_eq_true y)
      omega
    obtain ⟨h1, ht⟩ := end_in m3 hst h2
    match left, h1, hxs, ht, hcnt with
    | [t], _, hxs, ht, hcnt =>
      obtain ⟨x, rfl, hx⟩ := dp1 hxs
      exact ⟨_, rfl, pl, [x], 0, x, rfl, rfl, .inl (.inl hpl), rfl, q t x Hd H' ht kp (pn'.mono (by simp at hcnt; omega)) hx⟩
end
end Jt

set_option Elab.async false
set_option linter.all false
set_option maxRecDepth 100000
set_option maxHeartbeats 1000000
/-! _law_many. -/
namespace Jt
open PySem PySem.Spec PyProof.Rows L2 PySem.W
/-! promises for every naming -/
def spAny (sp : (Nat → Str) → Sp) : Sp := fun vs H Q E => ∃ nu, Nu nu ∧ sp nu vs H Q E
section
variable {P : Program} {w : World} {K : PySem.W.Frag} {mg : Str → Option Value} {base : Heap} {f f1 f2 f3 f4 : Addr} {fd fd1 fd2 fd3 fd4 : FuncData} {nu : Nat → Str}
theorem fnOk_any {k : Nat} {ps : List Str} {sp : (Nat → Str) → Sp} (h : ∀ nu, Nu nu → FnOk P w K mg base CX0 k f fd ps (sp nu)) : FnOk P w K mg base CX0 k f fd ps (spAny sp) :=
  ⟨fun vs H Q E ⟨nu, N, z⟩ => (h nu N).len vs H Q E z, fun A outer s H args us vs Q E r e b v ⟨nu, N, z⟩ => (h nu N).run A outer s H args us vs Q E r e b v z⟩
theorem Kept.any {x : Str} {k : Nat} {ps : List Str} {sp : (Nat → Str) → Sp} (h : ∀ nu, Nu nu → Kept P w K mg base x k ps (sp nu) f fd) (nu : Nat → Str) (N : Nu nu) : Kept P w K mg base x k ps (spAny sp) f fd :=
  ⟨fnOk_any fun nu N => (h nu N).ok, (h nu N).bd, (h nu N).kp, (h nu N).mg⟩
theorem evd_callA {σ : L2.St} {Hb : Hp} {ι : (Nat → Str) → Type} {ok : ∀ nu, ι nu → Prop} {arg : ∀ nu, ι nu → List PyData} {res : ∀ nu, ι nu → PyData} {E : XK} {tr : TA} {ds : List PyData} (N : Nu nu) (h : EvA K tr σ Hb ds) (i : ι nu) (ho : ok nu i) (ea : ds = arg nu i) :
    EvD K (tCall (spAny fun nu => spD K (ok nu) (arg nu) (res nu)) [] E tr) σ Hb (res nu i) := fun H e Q q =>
  h H e _ fun vs H1 H2 k hv => ⟨nu, N, i, H1, ho, k.sub, by rw [List.append_nil, ← ea]; exact hv, fun v H3 H4 k2 hv2 => q v H3 H4 (k.trans k2) hv2⟩
/-! _law_many -/
def strictB : List Nat → Bool
  | [] => true
  | i :: r => (r.all fun j => Nat.blt i j) && strictB r
theorem strictB_ok : ∀ {l : List Nat}, strictB l = true → l.Pairwise (· < ·)
  | [], _ => .nil
  | i :: r, h => by
    obtain ⟨h1, h2⟩ := Bool.and_eq_true_iff.mp (show ((r.all fun j => Nat.blt i j) && strictB r) = true from h)
    refine List.pairwise_cons.mpr ⟨fun j hj => ?_, strictB_ok h2⟩
    have := List.all_eq_true.mp h1 j hj
    rwa [Nat.blt_eq] at this
def isNil : List Nat → Bool
  | [] => true
  | _ => false
def dupL : List (List Nat) → Bool
  | [] => true
  | x :: r => !memL x r && dupL r
theorem dupL_du : ∀ {l : List (List Nat)}, dupL l = true → du l = l ∧ l.Nodup
  | [], _ => ⟨rfl, List.nodup_nil⟩
  | x :: r, h => by
    obtain ⟨h1, h2⟩ := Bool.and_eq_true_iff.mp (show (!memL x r && dupL r) = true from h)
    obtain ⟨e1, e2⟩ := dupL_du h2
    have hm : x ∉ r := fun z => by rw [memL_eq, decide_eq_true z] at h1; cases h1
    exact ⟨by rw [du, if_neg hm, e1], List.nodup_cons.mpr ⟨hm, e2⟩⟩
def goodX (a : T) (x : Fo) : Bool := strictB x.1 && ((x.2.all fun l => !isNil l && strictB l) && (eqLs (sortL x.2) x.2 && (dupL x.2 && (eqB (sortN (x.1 ++ x.2.flatten)) (namesT a) && Nat.ble x.2.length 4))))
def manyR (a b : T) (ring : Bool) : Option Nat := match fewest a b ring (namesT a) 5 0 with
  | some x => cond (goodX a x && letsR (((a, b), x), ring)) (some x.2.length) none
  | none => none
structure ManyI where
  a : T
  b : T
  ring : Bool
  k : Nat
structure ManyOk (nu : Nat → Str) (x : ManyI) : Prop where
  pr : Pair x.a x.b
  nm : ∀ i ∈ leaves x.a, nameOk (nu i) = true
  mn : manyR x.a x.b x.ring = some x.k
theorem good_lf {a b : T} {x : Fo} {ring : Bool} (pr : Pair a b) (nm : ∀ i ∈ leaves a, nameOk (nu i) = true) (h : goodX a x = true) : LfOk nu (((a, b), x), ring) := by
  obtain ⟨h1, h⟩ := Bool.and_eq_true_iff.mp (show _ = true from h)
  obtain ⟨h2, h⟩ := Bool.and_eq_true_iff.mp h
  obtain ⟨h3, h⟩ := Bool.and_eq_true_iff.mp h
  obtain ⟨h4, h⟩ := Bool.and_eq_true_iff.mp h
  obtain ⟨h5, h6⟩ := Bool.and_eq_true_iff.mp h
  obtain ⟨d1, d2⟩ := dupL_du h4
  have h5 := eqB_iff.mp h5
  have h6 : x.2.length ≤ 4 := Nat.le_of_ble_eq_true h6
  have hp : (x.1 ++ x.2.flatten).Perm (leaves a) := by
    have := (sortN_perm (x.1 ++ x.2.flatten)).symm
    rw [h5] at this
    exact this.trans (sortN_perm _)
  have hl := hp.length_eq
  rw [List.length_append] at hl
  have hfew := pr.few
  have hin : ∀ i ∈ x.1 ++ x.2.flatten, i ∈ leaves a := fun i hi => hp.mem_iff.mp hi
  have lsm : ∀ l ∈ x.2, l.length ≤ 6 := fun l hl2 => by
    have h3 : l.length ≤ x.2.flatten.length := (List.sublist_flatten_of_mem hl2).length_le
    omega
  have lin : ∀ l ∈ x.2, ∀ i ∈ l, i ∈ leaves a := fun l hl2 i hi => hin i (List.mem_append_right _ (List.mem_flatten.mpr ⟨l, hl2, hi⟩))
  have good : ∀ l ∈ x.2, GoodLot nu l := fun l hl2 => by
    have := List.all_eq_true.mp h2 l hl2
    obtain ⟨g1, g2⟩ := Bool.and_eq_true_iff.mp this
    refine ⟨fun z => ?_, fun i hi => nm i (lin l hl2 i hi), strictB_ok g2, by have := lsm l hl2; omega⟩
    rw [z] at g1; cases g1
  have ntn := names_len a
  refine ⟨⟨?_, good, ?_, h5, by show x.2.length ≤ 10; omega, by show (namesT a).length ≤ 100; omega⟩, ⟨pr.dpa, pr.few, by show x.1.length ≤ 100; omega, h6, fun l hl2 => ⟨by have := lsm l hl2; omega, lin l hl2⟩⟩,
    ⟨pr.dpb, by show (leaves b).length ≤ 6; rw [pr.same.length_eq]; exact hfew, by show x.1.length ≤ 100; omega, h6, fun l hl2 => ⟨by have := lsm l hl2; omega, fun i hi => pr.same.mem_iff.mpr (lin l hl2 i hi)⟩⟩, d2⟩
  · cases hx : x.1 with
    | nil => exact .inl rfl
    | cons i r =>
      right
      rw [← hx]
      refine ⟨by rw [hx]; exact List.cons_ne_nil _ _, fun j hj => nm j (hin j (List.mem_append_left _ hj)), strictB_ok h1, by omega⟩
  · show sortL (du x.2) = x.2
    rw [d1]
    rw [eqLs_eq] at h3
    exact of_decide_eq_true h3
abbrev spMany (K : PySem.W.Frag) (nu : Nat → Str) : Sp := spD K (ManyOk nu) (fun x => [treeD nu x.a, treeD nu x.b, .bool x.ring]) fun x => .int (x.k : Nat)
abbrev N_Lmany : List Str := ["_law_one", "_law_other", "_law_no_ring", "_law_found"]
abbrev P_Lmany : List Str := ["_law_one", "_law_other", "_law_no_ring"]
theorem sc_Lmany : FnScope N_Lmany P_Lmany (defScope s_Lmany) := ⟨rfl, rfl, rfl, by decide +kernel, rfl, by decide +kernel, by decide +kernel⟩
theorem rd_notBl {a b : Bool} : RD K (fun x y H Q => ∃ a b, x = .bl a ∧ y = .bl b ∧ Q (.bl (!decide (a = b))) H) (.bool a) (.bool b) (.bool (!decide (a = b))) := fun x y Hb H e hx hy Q q => by
  cases hx; cases hy
  exact ⟨a, b, rfl, rfl, q _ Hb H (Kn.refl e) (.bl _)⟩
theorem ok_Lmany {k k2 : Nat} (hk2 : k2 ≤ k) (F : FnP K "_law_many" s_Lmany f fd) (B : Bi mg) (K1 : KeptK P w K mg base "fewest_forest" k 2 ["one", "other", "ringless"] "ringless" (spFewest K nu) f1 fd1)
    (K2 : KeptK P w K mg base "lets_forest" k2 3 ["one", "other", "thing", "ringless"] "ringless" (spLets K nu) f2 fd2) : FnOk P w K mg base CX0 (k + 1) f fd P_Lmany (spMany K nu) := by
  refine F.ok sc_Lmany (fun vs H Q E h => sp_len h fun _ => rfl) (fun cdv A outer s H vs Q E hr h => ?_)
  obtain ⟨⟨a, b, ring, m⟩, Hb, ⟨pr, nm, mn⟩, e, hv, q⟩ := h
  have pr : Pair a b := pr
  have nm : ∀ i ∈ leaves a, nameOk (nu i) = true := nm
  have mn : manyR a b ring = some m := mn
  refine ⟨_, PSs.nox (pss_cons (ps_set (i := 3) sc_Lmany.nd rfl (Or.inl rfl) (p_callK K1 hr (pa_cons (pv 0) (pa_cons (pv 1) pa_nil)) (pv 2)))
    (pss_cons (ps_if (pt_cmpR op_isnot_bl (p_callK K2 hr (pa_cons (pv 0) (pa_cons (pv 1) (pa_cons (pv 3) pa_nil))) (pv 2) hk2) pe_bl (nomark _)) (pss_one (ps_ret (pe_un un_neg pe_int))) pss_nil)
    (pss_one (ps_ret (p_len K B (pe_ix (q_ixT K) (pv 3) pe_int (fun _ _ => rfl))))))), ?_⟩
  obtain ⟨v1, v2, v3, rfl, h1, h2, h3⟩ := dp3 hv
  have h1 : Dp K Hb v1 (treeD nu a) := h1
  have h2 : Dp K Hb v2 (treeD nu b) := h2
  have h3 : Dp K Hb v3 (.bool ring) := h3
  unfold manyR at mn
  cases hx : fewest a b ring (namesT a) 5 0 with
  | none => rw [hx] at mn; cases mn
  | some x =>
  rw [hx] at mn
  have mn : cond (goodX a x && letsR (((a, b), x), ring)) (some x.2.length) none = some m := mn
  cases hg : (goodX a x && letsR (((a, b), x), ring)) with
  | false => rw [hg] at mn; cases mn
  | true =>
  rw [hg] at mn
  have em : x.2.length = m := Option.some.inj mn
  obtain ⟨g1, g2⟩ := Bool.and_eq_true_iff.mp hg
  have lf : LfOk nu (((a, b), x), ring) := good_lf pr nm g1
  have k1 : EvD K (tCallN 2 1 (spFewest K nu) (fun vs zs => vs ++ zs) E0 (tCons (tVar 0) (tCons (tVar 1) tNil)) (tCons (tVar 2) tNil)) [some v1, some v2, some v3, none] Hb (forD nu x) :=
    evd_callK (eva_cons (evd_var rfl h1) (eva_cons (evd_var rfl h2) eva_nil)) (evd_var rfl h3) (FwI.mk a b ring x) ⟨pr, hx⟩ rfl rfl
  refine sd_set (K := K) (Hb := Hb) k1 e fun vx Hc H1 kn1 hvx => ?_
  have k2 : EvD K (tCallN 3 1 (spLets K nu) (fun vs zs => vs ++ zs) E0 (tCons (tVar 0) (tCons (tVar 1) (tCons (tVar 3) tNil))) (tCons (tVar 2) tNil)) [some v1, some v2, some v3, some vx] Hc (.bool (letsR (((a, b), x), ring))) :=
    evd_callK (eva_cons (evd_var rfl (dp_mono kn1.bas _ _ h1)) (eva_cons (evd_var rfl (dp_mono kn1.bas _ _ h2)) (eva_cons (evd_var rfl hvx) eva_nil))) (evd_var rfl (dp_mono kn1.bas _ _ h3)) (((a, b), x), ring) lf rfl rfl
  refine sd_if (evt_test (evd_op k2 evd_bl rd_notBl)) kn1.sub (fun z H2 e2 => ?_) fun z H2 e2 => ?_
  · rw [g2] at z; simp at z
  · have hvx' : Dp K Hc vx (.tuple [lotN nu x.1, .tuple (lotsD nu x.2)]) := hvx
    have h6 : x.2.length ≤ 4 := lf.sa.oth
    have k3 : EvD K (tCB (rLenX K) (tCons (tOp (rIxT K) (tVar 3) (tC (.int 1))) tNil)) [some v1, some v2, some v3, some vx] Hc (.int (x.2.length : Nat)) :=
      e_len (evd_op (evd_var rfl hvx') evd_int (rd_ixT (d := .tuple (lotsD nu x.2)) rfl)) (dlen_lots _).2 (by omega)
    rw [em] at k3
    exact sd_ret k3 (kn1.sub.trans e2) fun v Hb' H' k hv => q v Hb' H' (kn1.trans (kn_up e2 k)) hv
end
end Jt

set_option Elab.async false
set_option linter.all false
set_option maxRecDepth 100000
set_option maxHeartbeats 1000000
/-! _law_two: two trees on the same names. -/
namespace Jt
open PySem PySem.Spec PyProof.Rows L2 PySem.W
def nuL (l : List Nat) : Nat → Str := ext (l.map thN)
theorem th_low : ∀ i, i < 13 → nameLow (thN i) = true := by decide +kernel
theorem nuL_nu {l : List Nat} (h : l.Pairwise (· < ·)) (h13 : ∀ i ∈ l, i < 13) : Nu (nuL l) := ext_nu (List.pairwise_map.mpr (h.imp fun q => th_nu.mono _ _ q)) fun x hx => by
  obtain ⟨i, hi, rfl⟩ := List.mem_map.mp hx
  exact th_low i (h13 i hi)
theorem nuL_list (l : List Nat) : l.map thN = (List.range l.length).map (nuL l) := by
  refine List.ext_getElem (by simp) fun i h1 h2 => ?_
  have hi : i < l.length := by simpa using h1
  rw [List.getElem_map, List.getElem_map, List.getElem_range]
  show thN l[i] = ext (l.map thN) i
  rw [ext_lt (by simpa using hi), List.getElem_map]
def restOf (i1 i2 : Nat) : List Nat := (List.range 3).filter fun j => !memB j [i1, i2]
def chkB : Bool := (allT 3).all fun o => (List.range 3).all fun i1 => (List.range 3).all fun i2 => (restOf i1 i2).all fun j => match partT o [i1, i2], partT o (restOf i1 i2) with
  | some tk, some rt => decide (besideT j tk rt ∈ allT 3) && (Nat.blt (depthT tk) 7 && Nat.blt (depthT rt) 7)
  | _, _ => false
theorem chkB_ok : chkB = true := by decide +kernel
theorem beside_in {o : T} {i1 i2 j : Nat} (ho : o ∈ allT 3) (h1 : i1 < 3) (h2 : i2 < 3) (hj : j ∈ restOf i1 i2) : ∃ tk rt, partT o [i1, i2] = some tk ∧ partT o (restOf i1 i2) = some rt ∧ besideT j tk rt ∈ allT 3 ∧ depthT tk < 7 ∧ depthT rt < 7 := by
  have a := List.all_eq_true.mp (List.all_eq_true.mp (List.all_eq_true.mp (List.all_eq_true.mp chkB_ok o ho) i1 (List.mem_range.mpr h1)) i2 (List.mem_range.mpr h2)) j hj
  cases e1 : partT o [i1, i2] with
  | none => rw [e1] at a; cases a
  | some tk =>
    cases e2 : partT o (restOf i1 i2) with
    | none => rw [e1, e2] at a; cases a
    | some rt =>
      rw [e1, e2] at a
      obtain ⟨b1, b2⟩ := Bool.and_eq_true_iff.mp (show (decide (besideT j tk rt ∈ allT 3) && (Nat.blt (depthT tk) 7 && Nat.blt (depthT rt) 7)) = true from a)
      obtain ⟨b3, b4⟩ := Bool.and_eq_true_iff.mp b2
      rw [Nat.blt_eq] at b3 b4
      exact ⟨tk, rt, rfl, rfl, of_decide_eq_true b1, b3, b4⟩
theorem allT_dp {n : Nat} (hn : n ≤ 3) {t : T} (h : t ∈ allT n) : depthT t < 7 := by
  have k : ((List.range 4).all fun n => (allT n).all fun t => Nat.blt (depthT t) 7) = true := by decide +kernel
  have := List.all_eq_true.mp (List.all_eq_true.mp k n (List.mem_range.mpr (by omega))) t h
  rwa [Nat.blt_eq] at this
section
variable {P : Program} {w : World} {K : PySem.W.Frag} {mg : Str → Option Value} {base : Heap} {f f1 f2 f3 f4 f5 : Addr} {fd fd1 fd2 fd3 fd4 fd5 : FuncData} {nu : Nat → Str}
theorem KnP.new {p a : Addr} {Hb H Hc H' : Hp} {o : HO} (k : KnP p Hb H Hc H') (h : H' a = none) : KnP p Hb H (upd Hc a o) (upd H' a o) := by
  have hp : a ≠ p := fun y => by rw [y] at h; exact k.live h
  have h1 := none_back k.sub h
  have h2 := k.back h
  refine ⟨fun c u hc z => ?_, k.bas.trans (Evl.Ex.new h1), fun c u z => ?_, fun c u z => ?_, by rw [upd_ne hp.symm]; exact k.live⟩
  · rw [upd_ne (fun y => by rw [y, h2] at z; cases z)]; exact k.exc c u hc z
  · by_cases hc : c = a
    · subst hc; rw [upd_same] at z ⊢; exact z
    · rw [upd_ne hc] at z ⊢; exact k.sub c u z
  · by_cases hc : c = a
    · subst hc; exact .inr h2
    · rw [upd_ne hc] at z; exact k.nw c u z
theorem KnP.ex_ {p : Addr} {Hb H Hc H' H2 : Hp} (k : KnP p Hb H Hc H') (e : Ex H' H2) : KnP p Hb H Hc H2 :=
  ⟨fun c u hc z => e _ _ (k.exc c u hc z), k.bas, k.sub.trans e, k.nw, fun y => k.live (none_back e y)⟩
theorem evp_ixT {σ : L2.St} {Hb : Hp} {ta tb : TE} {p cl : Addr} {c : Nat} {R R2 : PyData → Prop} {ds : List PyData} (ha : EvD K ta σ Hb (.tuple ds)) (hb : ∀ Hc, Ex Hb Hc → EvP K p cl c tb σ Hc R) (hr : ∀ d, R d → ∃ i x, d = .int i ∧ atI ds i = some x ∧ R2 x) : EvP K p cl c (tOp (rIxT K) ta tb) σ Hb R2 := fun n H e hp pn hn Q q =>
  ha H e _ fun u H1 H2 k1 hu => by
    have kp := k1.pen pn.live
    have hp1 := kp.hidP hp pn.live
    refine hb H1 k1.bas n H2 k1.sub hp1 (pn.ex_ k1.cur) hn _ fun d v H3 H4 r k2 pn2 hv => ?_
    obtain ⟨i, x, rfl, hx, hR⟩ := hr d r
    cases hv
    cases hu with
    | tup hs hall =>
      obtain ⟨y, hy, hyd⟩ := atI_dp hall hx
      exact ⟨_, _, i, y, rfl, rfl, SqT.of ((k2.bas.trans k2.sub) _ _ hs), hy, q x y H3 H4 hR (kp.trans k2) pn2 (dp_mono k2.bas _ _ hyd)⟩
theorem evp_tree {σ : L2.St} {Hb : Hp} {p cl : Addr} {i j N0 : Nat} {v : V} (N : Nu nu) (hi : σ[i]? = some (some (.ref p))) (hj : σ[j]? = some (some v)) (m1 : 1 ≤ N0) (m3 : N0 ≤ 3) (hv : Dp K Hb v (nmsD nu (List.range N0))) :
    EvP K p cl 12 (tCall (spAny (spTreeL K)) [] E0 (tCons (tVar i) (tCons (tVar j) (tCons (tC (.int 0)) tNil)))) σ Hb (fun d => ∃ t, t ∈ allT N0 ∧ d = treeD nu t) := fun n H e hp pn hn Q q =>
  ⟨_, hi, _, hj, nu, N, p, cl, n, N0, Hb, v, rfl, e, hp, pn, hn, m1, m3, hv, fun t u Hb' H' ht kp pn' hu => q _ u Hb' H' ⟨t, ht, rfl⟩ kp pn' hu⟩
def spTwo (K : PySem.W.Frag) : Sp := fun vs H Q _ => ∃ (p cl : Addr) (n many : Nat) (Hb : Hp), vs = [.ref p, .int many] ∧ 1 ≤ many ∧ many ≤ 3 ∧ Pen n H p cl ∧ n + 60 ≤ 10000 ∧ Ex Hb H ∧ Hb p = none ∧
  ∀ (l : List Nat) (t u : T) (v : V) (Hb' H' : Hp), l.length = many → l.Pairwise (· < ·) → (∀ i ∈ l, i < 13) → t ∈ allT many → u ∈ allT many → KnP p Hb H Hb' H' → Pen (n + 60) H' p cl → Dp K Hb' v (.tuple [treeD (nuL l) t, treeD (nuL l) u]) → Q v H'
abbrev N_Ltwo : List Str := ["_law_pen_here", "_law_many_here", "_law_names_here", "_law_one", "_law_other", "_law_k", "_law_some", "_law_rest", "_law_taken", "_law_name"]
theorem sc_Ltwo : FnScope N_Ltwo P_Lnames (defScope s_Ltwo) := ⟨rfl, rfl, rfl, by decide +kernel, rfl, by decide +kernel, by decide +kernel⟩
theorem ok_Ltwo {k : Nat} (hk : 3 ≤ k) (F : FnP K "_law_two" s_Ltwo f fd) (B : Bi mg) (K1 : Kept P w K mg base "_law_draw" 1 P_Lnames spDraw f1 fd1) (K2 : Kept P w K mg base "_law_names" 2 P_Lnames spNamesL f2 fd2) (K3 : Kept P w K mg base "_law_tree" 3 P_Ltree (spAny (spTreeL K)) f3 fd3)
    (K4 : Kept P w K mg base "_law_to" k ["_law_tree_here", "_law_names_here"] (spAny fun nu => spToL K nu 7) f4 fd4) (K5 : Kept P w K mg base "_law_beside" k P_Lbeside (spAny fun nu => spBeside K nu 7) f5 fd5) : FnOk P w K mg base CX0 (k + 1) f fd P_Lnames (spTwo K) := by
  refine F.ok sc_Ltwo (fun vs H Q E h => by obtain ⟨p, cl, n, many, Hb, rfl, _⟩ := h; rfl) (fun cdv A outer s H vs Q E hr h => ?_)
  obtain ⟨p, cl, n, many, Hb, rfl, m1, m3, pn, hn, e, hp, q⟩ := h
  refine ⟨_, PSs.nox (pss_cons (ps_set (i := 2) sc_Ltwo.nd rfl (Or.inl rfl) (p_call K2 hr (pa_cons (pv 0) (pa_cons (pv 1) pa_nil))))
    (pss_cons (ps_set (i := 3) sc_Ltwo.nd rfl (Or.inl rfl) (p_call K3 hr (pa_cons (pv 0) (pa_cons (pv 2) (pa_cons pe_int pa_nil)))))
    (pss_cons (ps_set (i := 4) sc_Ltwo.nd rfl (Or.inl rfl) (pv 3))
    (pss_cons (ps_if (PW.pt (pw_or (pt_cmpR op_eq (p_call K1 hr (pa_cons (pv 0) (pa_cons pe_int pa_nil))) pe_int (nomark _)) (pw_or1 (pt_cmpR op_lt (pv 1) pe_int (nomark _))))) (pss_one (ps_ret (pe_tup (pa_cons (pv 3) (pa_cons (p_call K3 hr (pa_cons (pv 0) (pa_cons (pv 2) (pa_cons pe_int pa_nil)))) pa_nil))))) pss_nil)
    (pss_cons (ps_for PassesOwn.never rfl (pi_range1 rfl B.range (pa_cons (pe_op op_add pe_int (p_call K1 hr (pa_cons (pv 0) (pa_cons pe_int pa_nil)))) pa_nil)) (pg_name (i := 5) sc_Ltwo.nd rfl (Or.inl rfl))
      (pss_cons (ps_set (i := 6) sc_Ltwo.nd rfl (Or.inr rfl) (pe_lst (pa_cons (pe_ix (q_ixL K) (pv 2) (p_call K1 hr (pa_cons (pv 0) (pa_cons (pv 1) pa_nil))) (fun _ _ => rfl)) (pa_cons (pe_ix (q_ixL K) (pv 2) (p_call K1 hr (pa_cons (pv 0) (pa_cons (pv 1) pa_nil))) (fun _ _ => rfl)) pa_nil))))
      (pss_cons (ps_set (i := 7) sc_Ltwo.nd rfl (Or.inl rfl) (p_tuple K B (p_lcT (own := [("_law_name", 9)]) (j := 9) rfl sc_Ltwo.nd rfl (q_list K (pv 2)) (blkOk_by (N := N_Ltwo) (sc := defScope s_Ltwo) (by decide +kernel)) (fun _ _ _ _ _ => pt_cmpR (q_notin K) (pv 9) (pv 6) (by with_unfolding_all rfl)) (fun _ _ _ _ _ => pv 9))))
      (pss_one (ps_if (pt_cmpR (q_neD K hr.units) (pv 7) (pe_tup pa_nil) (nomark _))
        (pss_cons (ps_set (i := 8) sc_Ltwo.nd rfl (Or.inl rfl) (p_call K4 hr (pa_cons (pv 4) (pa_cons (pv 6) pa_nil))))
        (pss_one (ps_set (i := 4) sc_Ltwo.nd rfl (Or.inl rfl) (p_call K5 hr (pa_cons (p_call K4 hr (pa_cons (pv 4) (pa_cons (pv 7) pa_nil))) (pa_cons (pe_ix (q_ixT K) (pv 7) (p_call K1 hr (pa_cons (pv 0) (pa_cons (p_len K B (pv 7)) pa_nil))) (fun _ _ => rfl)) (pa_cons (pv 8) pa_nil))))))) pss_nil)))))
    (pss_one (ps_ret (pe_tup (pa_cons (pv 3) (pa_cons (pv 4) pa_nil)))))))))), ?_⟩
  refine ⟨.ref p, rfl, .int many, rfl, p, cl, many, n, rfl, m1, m3, pn, by omega, fun l r H1 hll hup h13 pn1 hr1 ex1 hr1l => ?_⟩
  have NL := nuL_nu hup h13
  have hrp : r ≠ p := fun y => by rw [y] at hr1; exact pn.live hr1
  have hbr : Hb r = none := none_back e hr1
  have hsub0 : Ex Hb H1 := exc_ex ex1 hp e
  have hsub1 : Ex (upd Hb r (.lst (strsV l))) H1 := fun c o z => by
    by_cases hc : c = r
    · subst hc; rw [upd_same] at z; cases z; exact hr1l
    · rw [upd_ne hc] at z; exact hsub0 c o z
  have kp1 : KnP p Hb H (upd Hb r (.lst (strsV l))) H1 := ⟨ex1, Evl.Ex.new hbr, hsub1, fun c o z => by
    by_cases hc : c = r
    · subst hc; exact .inr hr1
    · rw [upd_ne hc] at z; exact .inl (by rw [z]; exact Option.some_ne_none _), pn1.live⟩
  have hnm : Dp K (upd Hb r (.lst (strsV l))) (.ref r) (nmsD (nuL l) (List.range many)) := by
    refine .lst (.inl (.inl upd_same)) ?_
    have := dpAll_ofStrs (K := K) (H := upd Hb r (.lst (strsV l))) (l.map thN)
    have e2 : sts (l.map thN) = (List.range many).map (nmD (nuL l)) := by
      rw [← hll]
      show (l.map thN).map PyData.str = _
      rw [nuL_list, List.map_map]
      rfl
    rw [e2] at this
    exact this
  have hb1p := kp1.hidP hp pn.live
  generalize upd Hb r (.lst (strsV l)) = Hb1 at hsub1 kp1 hnm hb1p
  refine sp_set (K := K) (Hb := Hb1) (evp_tree (i := 0) (j := 2) NL rfl rfl m1 m3 hnm) hsub1 hb1p pn1 (by omega) fun d v3 Hb2 H2 hd kp2 pn2 hv3 => ?_
  obtain ⟨t, ht, rfl⟩ := hd
  refine ⟨v3, rfl, ?_⟩
  have kpA := kp1.trans kp2
  have hb2p := kpA.hidP hp pn.live
  have hnm2 := dp_mono kp2.bas _ _ hnm
  have finish : ∀ (Hd H' : Hp) (cnt : Nat) (u' : T) (u : V), KnP p Hb H Hd H' → Pen cnt H' p cl → cnt ≤ n + 60 → Dp K Hd v3 (treeD (nuL l) t) → u' ∈ allT many → Dp K Hd u (treeD (nuL l) u') → ∀ pt, H' pt = none → Q (.ref pt) (upd H' pt (.tup [v3, u])) := fun Hd H' cnt u' u kp pn' hc h1 hu' h2 pt hpt => by
    have ex := Evl.Ex.new (o := .tup [v3, u]) (none_back kp.sub hpt)
    exact q l t u' (.ref pt) _ _ hll hup h13 ht hu' (kp.new hpt) ((pn'.mono hc).ex_ (Evl.Ex.new hpt)) (.tup upd_same (.cons (dp_mono ex _ _ h1) (.cons (dp_mono ex _ _ h2) .nil)))
  have ret2 : ∀ (Hd H' : Hp) (cnt : Nat), KnP p Hb H Hd H' → Ex Hb2 Hd → Pen cnt H' p cl → cnt + 12 ≤ n + 60 → tRet (tTup (tCons (tVar 3) (tCons (tCall (spAny (spTreeL K)) [] E0 (tCons (tVar 0) (tCons (tVar 2) (tCons (tC (.int 0)) tNil)))) tNil))) { nx := fun _ H' => Q .non H', rt := Q } [some (.ref p), some (.int many), some (.ref r), some v3, some v3, none, none, none, none, none] H' := fun Hd H' cnt kp ee pn' hc => by
    refine ⟨v3, rfl, ?_⟩
    refine evp_tree (K := K) (Hb := Hd) (i := 0) (j := 2) NL rfl rfl m1 m3 (dp_mono ee _ _ hnm2) cnt H' kp.sub (kp.hidP hp pn.live) pn' (by omega) _ fun d u Hb' H'' hd kp' pn'' hu => ?_
    obtain ⟨u', hu', rfl⟩ := hd
    exact ⟨Evl.sz_of (by exact (by decide : 2 ≤ 100000)), finish Hb' H'' _ u' u (kp.trans kp') pn'' hc (dp_mono (ee.trans kp'.bas) _ _ hv3) hu' hu⟩
  refine evp_draw (K := K) (Hb := Hb2) (i := 0) (many := 3) rfl evd_int (by decide) (by decide) (n + 15) H2 kpA.sub hb2p pn2 (by omega) _ fun d w3 Hb3 H3 hd kp3 pn3 hw3 => ?_
  obtain ⟨k0, rfl, -, -⟩ := hd
  cases hw3
  have kpB := kpA.trans kp3
  refine ⟨rfl, _, rfl, ite2 (fun _ => ?_) fun _ => ?_⟩
  · refine iteT ?_
    exact ret2 Hb3 H3 _ kpB kp3.bas pn3 (by omega)
  refine ⟨_, rfl, many, 3, rfl, rfl, _, rfl, ite2 (fun _ => ?_) fun hm3 => ?_⟩
  · exact ret2 Hb3 H3 _ kpB kp3.bas pn3 (by omega)
  have hmany : many = 3 := by
    have : ¬ ((many : Int) < 3) := fun y => hm3 (decide_eq_true y)
    omega
  subst hmany
  -- the loop
  refine evp_draw (K := K) (Hb := Hb3) (i := 0) (many := 3) rfl evd_int (by decide) (by decide) (n + 16) H3 kpB.sub (kpB.hidP hp pn.live) pn3 (by omega) _ fun d w4 Hb4 H4 hd kp4 pn4 hw4 => ?_
  obtain ⟨k1, rfl, k10, k11⟩ := hd
  cases hw4
  have kpC := kpB.trans kp4
  refine ⟨1, k1, rfl, rfl, 1 + k1, rfl, by omega, by omega, ?_⟩
  refine ⟨fun i m σ' H' => m = (1 + k1).toNat - i ∧ i ≤ (1 + k1).toNat ∧ ∃ Hd o vo c5 c6 c7 c8 c9, σ' = [some (.ref p), some (.int (3 : Nat)), some (.ref r), some v3, some vo, c5, c6, c7, c8, c9] ∧ KnP p Hb H Hd H' ∧ Ex Hb2 Hd ∧ o ∈ allT 3 ∧ Dp K Hd vo (treeD (nuL l) o) ∧ Pen (n + 17 + 3 * i) H' p cl,
    ⟨_, rfl, Nat.zero_le _, Hb4, t, v3, none, none, none, none, none, rfl, kpC, kp3.bas.trans kp4.bas, ht, dp_mono (kp3.bas.trans kp4.bas) _ _ hv3, pn4⟩, ?_⟩
  rintro i m σ' H5 ⟨rfl, hi, Hd, o, vo, c5, c6, c7, c8, c9, rfl, kp5, ee5, ho, hvo, pn5⟩
  by_cases hlt : i < (1 + k1).toNat
  · refine .inr ⟨hlt, _, fun σ3 H3 w => ⟨(1 + k1).toNat - (i + 1), by omega, rfl, hlt, w⟩, fun x H6 y => ?_⟩
    obtain ⟨eH, -⟩ := y
    subst eH
    have hdp := kp5.hidP hp pn.live
    have nm5 := dp_mono ee5 _ _ hnm2
    have one : ∀ (σ2 : L2.St) (He : Hp), σ2[0]? = some (some (.ref p)) → σ2[1]? = some (some (.int (3 : Nat))) → σ2[2]? = some (some (.ref r)) → Ex Hd He → EvP K p cl 1 (tOp (rIxL K) (tVar 2) (tCall spDraw [] E0 (tCons (tVar 0) (tCons (tVar 1) tNil)))) σ2 He (fun d => ∃ j, j < 3 ∧ d = nmD (nuL l) j) := fun σ2 He s0 s1 s2 ee =>
      evp_ixL (evd_var s2 (dp_mono ee _ _ nm5)) (fun Hc ec => evp_draw s0 (evd_var s1 (.int _)) (by decide) (by decide)) fun d hd => by
        obtain ⟨kk, rfl, q0, q1⟩ := hd
        have hj : kk.toNat < 3 := by omega
        exact ⟨kk, nmD (nuL l) kk.toNat, rfl, atI_map (nmD (nuL l)) (xs := List.range 3) (j := kk.toNat) (by rw [List.getElem?_range hj]) (by omega), kk.toNat, hj, rfl⟩
    refine one _ Hd rfl rfl rfl (Evl.Ex.refl _) (n + 17 + 3 * i) H6 kp5.sub hdp pn5 (by omega) _ fun d u1 He H7 hd kp7 pn7 hu1 => ?_
    obtain ⟨j1, hj1, rfl⟩ := hd
    cases hu1
    have kpD := kp5.trans kp7
    refine one _ He rfl rfl rfl kp7.bas (n + 17 + 3 * i + 1) H7 kpD.sub (kpD.hidP hp pn.live) pn7 (by omega) _ fun d u2 Hf H8 hd kp8 pn8 hu2 => ?_
    obtain ⟨j2, hj2, rfl⟩ := hd
    cases hu2
    have kpE := kpD.trans kp8
    refine ⟨Evl.sz_of (by exact (by decide : 2 ≤ 100000)), fun ps hps => ?_⟩
    have kpF := kpE.new (o := .lst [.str (nuL l j1), .str (nuL l j2)]) hps
    have pn9 := pn8.ex_ (Evl.Ex.new (o := .lst [.str (nuL l j1), .str (nuL l j2)]) hps)
    have exF : Ex Hf (upd Hf ps (.lst [.str (nuL l j1), .str (nuL l j2)])) := Evl.Ex.new (none_back kpE.sub hps)
    have hsome : Dp K (upd Hf ps (.lst [.str (nuL l j1), .str (nuL l j2)])) (.ref ps) (namesD (nuL l) true [j1, j2]) := .lst (.inl (.inl upd_same)) (.cons (.str _) (.cons (.str _) .nil))
    have eeF : Ex Hd (upd Hf ps (.lst [.str (nuL l j1), .str (nuL l j2)])) := (kp7.bas.trans kp8.bas).trans exF
    generalize upd Hf ps (.lst [.str (nuL l j1), .str (nuL l j2)]) = Hg at kpF exF hsome eeF
    generalize upd H8 ps (.lst [.str (nuL l j1), .str (nuL l j2)]) = H9 at kpF pn9
    have nmG := dp_mono eeF _ _ nm5
    have hvoG := dp_mono eeF _ _ hvo
    -- rest
    refine sd_set (K := K) (Hb := Hg) (d := lotN (nuL l) (restOf j1 j2)) (evd_is (e_tup (evb_lc (bs := List.range 3) (enc := nmD (nuL l)) (fun j => !memB j [j1, j2]) (nmD (nuL l)) (wad_list (evd_var rfl nmG)) (by exact (by decide : 3 ≤ 40000)) (fun _ => rfl) (fun j hj v Hc2 e3 hd => ?t1) fun j hj _ v Hc2 e3 hd => evd_var rfl hd).asD) (lotN_eq _)) kpF.sub fun vr Hh H10 k10 hvr => ?_
    case t1 => exact evt_is (evt_test (evd_op (evd_var (d := nmD (nuL l) j) rfl hd) (evd_var rfl (dp_mono e3 _ _ hsome)) (rd_notInL (namesD_or true [j1, j2])))) (by rw [mem_nu NL.mono])
    have kpG := kpF.trans (k10.pen kpF.live)
    have pn10 := pn9.ex_ k10.cur
    refine sd_if (Hb := Hh) (evt_test (evd_op (evd_var rfl hvr) (evd_tup eva_nil) (rd_neD (shaped_lot NL _) (by decide) (nd_lot _) (by decide)))) k10.sub (fun z H11 e11 => ?_) fun z H11 e11 => ?_
    · have hne : restOf j1 j2 ≠ [] := fun y => by rw [y] at z; simp [PyData.eqv, PyData.eqvAll] at z
      obtain ⟨jr, hjr⟩ := List.exists_mem_of_ne_nil _ hne
      have hodp := allT_dp (by decide) ho
      obtain ⟨tk, rt, et, er, hin0, dtk, drt⟩ := beside_in ho hj1 hj2 hjr
      have kt : EvD K (tCall (spAny fun nu => spToL K nu 7) [] E0 (tCons (tVar 4) (tCons (tVar 6) tNil))) [some (.ref p), some (.int (3 : Nat)), some (.ref r), some v3, some vo, some x, some (.ref ps), some vr, c8, c9] Hh (treeD (nuL l) tk) :=
        evd_is (evd_callA (ι := fun _ => ToI) (res := fun nu (q : ToI) => optD nu (partT q.1.1 q.1.2)) NL (eva_cons (evd_var rfl (dp_mono k10.bas _ _ hvoG)) (eva_cons (evd_var rfl (dp_mono k10.bas _ _ hsome)) eva_nil)) ((o, [j1, j2]), true) ⟨hodp, by decide⟩ rfl) (by show optD (nuL l) (partT o [j1, j2]) = _; rw [et]; rfl)
      refine sd_set (K := K) (Hb := Hh) kt (k10.sub.trans e11) fun vt Hi H12 k12 hvt => ?_
      have kpH := kpG.trans ((kn_up e11 k12).pen kpG.live)
      have pn12 := pn10.ex_ (e11.trans k12.cur)
      have kr : EvD K (tCall (spAny fun nu => spToL K nu 7) [] E0 (tCons (tVar 4) (tCons (tVar 7) tNil))) [some (.ref p), some (.int (3 : Nat)), some (.ref r), some v3, some vo, some x, some (.ref ps), some vr, some vt, c9] Hi (treeD (nuL l) rt) :=
        evd_is (evd_callA (ι := fun _ => ToI) (res := fun nu (q : ToI) => optD nu (partT q.1.1 q.1.2)) NL (eva_cons (evd_var rfl (dp_mono (k10.bas.trans k12.bas) _ _ hvoG)) (eva_cons (evd_var rfl (dp_mono k12.bas _ _ hvr)) eva_nil)) ((o, restOf j1 j2), false) ⟨hodp, by decide⟩ rfl) (by show optD (nuL l) (partT o (restOf j1 j2)) = _; rw [er]; rfl)
      have hlr : (restOf j1 j2).length ≤ 3 := List.length_filter_le _ _
      have hlp : 1 ≤ (restOf j1 j2).length := List.length_pos_iff.mpr hne
      refine kr H12 kpH.sub _ fun ur Hj H13 k13 hur => ?_
      have kpI := kpH.trans (k13.pen kpH.live)
      have hvrJ := dp_mono (k12.bas.trans k13.bas) _ _ hvr
      have kx : EvP K p cl 1 (tOp (rIxT K) (tVar 7) (tCall spDraw [] E0 (tCons (tVar 0) (tCons (tCB (rLenX K) (tCons (tVar 7) tNil)) tNil)))) [some (.ref p), some (.int (3 : Nat)), some (.ref r), some v3, some vo, some x, some (.ref ps), some vr, some vt, c9] Hj (fun d => ∃ j, j ∈ restOf j1 j2 ∧ d = nmD (nuL l) j) :=
        evp_ixT (ds := ((restOf j1 j2).map (nuL l)).map .str) (evd_var rfl hvrJ) (fun Hc ec => evp_draw rfl (e_len (n := (restOf j1 j2).length) (evd_var rfl (dp_mono ec _ _ hvrJ)) (dlen_lot _) (by omega)) (by omega) (by omega)) fun d hd => by
          obtain ⟨kk, rfl, q0, q1⟩ := hd
          have hj : kk.toNat < (restOf j1 j2).length := by omega
          refine ⟨kk, nmD (nuL l) (restOf j1 j2)[kk.toNat], rfl, ?_, _, List.getElem_mem hj, rfl⟩
          rw [nms_eq]
          exact atI_map (nmD (nuL l)) (xs := restOf j1 j2) (j := kk.toNat) (List.getElem?_eq_getElem hj) (by omega)
      refine kx (n + 17 + 3 * i + 2) H13 kpI.sub (kpI.hidP hp pn.live) (pn12.ex_ k13.cur) (by omega) _ fun d uj Hk H14 hd kp14 pn14 huj => ?_
      obtain ⟨jx, hjx, rfl⟩ := hd
      obtain ⟨tk2, rt2, et2, er2, hin, -, -⟩ := beside_in ho hj1 hj2 hjx
      rw [et] at et2
      rw [er] at er2
      cases et2
      cases er2
      have kpJ := kpI.trans kp14
      refine ⟨vt, rfl, nuL l, NL, ((rt, jx), tk), Hk, ⟨drt, by decide⟩, kp14.sub, .cons (dp_mono kp14.bas _ _ hur) (.cons huj (.cons (dp_mono (k13.bas.trans kp14.bas) _ _ hvt) .nil)), fun v Hb' H' k hv => ?_⟩
      have kpK := kpJ.trans (k.pen kpJ.live)
      exact ⟨Hb', besideT jx tk rt, v, some x, some (.ref ps), some vr, some vt, c9, rfl, kpK, ee5.trans (eeF.trans (k10.bas.trans (k12.bas.trans (k13.bas.trans (kp14.bas.trans k.bas))))), hin, hv, (pn14.mono (by omega)).ex_ k.cur⟩
    · exact ⟨Hh, o, vo, some x, some (.ref ps), some vr, c8, c9, rfl, kpG.ex_ e11, ee5.trans (eeF.trans k10.bas), ho, dp_mono k10.bas _ _ hvoG, (pn10.mono (by omega)).ex_ e11⟩
  · have e2 : i = (1 + k1).toNat := by omega
    refine .inl ⟨by show (1 + k1).toNat ≤ i; omega, ?_⟩
    exact ⟨v3, rfl, vo, rfl, Evl.sz_of (by exact (by decide : 2 ≤ 100000)), finish Hd H5 _ o vo kp5 pn5 (by omega) (dp_mono ee5 _ _ hv3) ho hvo⟩
end
end Jt

set_option Elab.async false
set_option linter.all false
set_option maxRecDepth 100000
set_option maxHeartbeats 1000000
/-! The plain law: every pair of the few trees. -/
namespace Jt
def shiftT (n : Nat) : T → T
  | .leaf i => .leaf (n + i)
  | .fork l r => .fork (shiftT n l) (shiftT n r)
def pairB (a b : T) : Bool := Nat.blt (depthT a) 7 && (Nat.blt (depthT b) 7 && (Nat.ble (leaves a).length 6 && (strictB (namesT a) && eqB (namesT a) (namesT b))))
def isK (o : Option Nat) (k : Nat) : Bool := match o with
  | some j => Nat.beq j k
  | none => false
def isLe (o : Option Nat) (k : Nat) : Bool := match o with
  | some j => Nat.ble j k
  | none => false
def headN : List Nat → Nat
  | [] => 0
  | i :: _ => i
def elseT (t : T) (m i j : Nat) : T := cond (Nat.beq i j) t (match partT t ((List.range m).filter fun x => !Nat.beq x i) with
  | none => t
  | some rt => besideT j (.leaf i) rt)
/-- pairs: x trees a b, y trees c d (shifted) -/
def chkA (a b c d : T) : Bool := match manyR a b true, manyR c d true with
  | some k1, some k2 => (pairB a b && pairB c d) && ((pairB (forkN a c) (forkN b d) && pairB (hungT (headN (namesT a)) c a) (hungT (headN (namesT a)) d b)) &&
      ((isK (manyR (forkN a c) (forkN b d) true) (k1 + k2) && isK (manyR (hungT (headN (namesT a)) c a) (hungT (headN (namesT a)) d b) true) (k1 + k2)) &&
      (isLe (manyR (forkN a c) (forkN b d) false) (k1 + k2) && isLe (manyR (hungT (headN (namesT a)) c a) (hungT (headN (namesT a)) d b) false) (k1 + k2))))
  | _, _ => false
/-- one tree t on m names: itself, and one name elsewhere -/
def chkW (t : T) (m : Nat) : Bool := (pairB t t && (eqB (namesT t) (List.range m) && (isK (manyR t t true) 0 && isK (manyR t t false) 0))) &&
  (List.range m).all fun i => (List.range m).all fun j => cond (Nat.beq i j) true (match partT t ((List.range m).filter fun x => !Nat.beq x i) with
    | none => false
    | some rt => Nat.blt (depthT rt) 7 && (pairB t (besideT j (.leaf i) rt) && (isK (manyR t (besideT j (.leaf i) rt) true) (cond (beqT (besideT j (.leaf i) rt) t) 0 1) && isK (manyR t (besideT j (.leaf i) rt) false) (cond (beqT (besideT j (.leaf i) rt) t) 0 1))))
def allA (n m : Nat) : Bool := (allT n).all fun a => (allT n).all fun b => (allT m).all fun c => (allT m).all fun d => chkA (reT a) (reT b) (shiftT n (reT c)) (shiftT n (reT d))
def allW (n m : Nat) : Bool := (allT n).all fun a => (allT m).all fun c => chkW (forkN (reT a) (shiftT n (reT c))) (n + m)
theorem allA_ok : ((List.range 3).all fun n => (List.range 3).all fun m => allA (n + 1) (m + 1)) = true := by decide +kernel
theorem allW_ok : ((List.range 3).all fun n => (List.range 3).all fun m => allW (n + 1) (m + 1)) = true := by decide +kernel
end Jt

set_option Elab.async false
set_option linter.all false
set_option maxRecDepth 100000
set_option maxHeartbeats 1000000
/-! _law_elsewhere. -/
namespace Jt
open PySem PySem.Spec PyProof.Rows L2 PySem.W
section
variable {P : Program} {w : World} {K : PySem.W.Frag} {mg : Str → Option Value} {base : Heap} {f f1 f2 f3 f4 f5 : Addr} {fd fd1 fd2 fd3 fd4 fd5 : FuncData} {nu : Nat → Str}
structure ElOk (t : T) (m : Nat) : Prop where
  m1 : 1 ≤ m
  m6 : m ≤ 6
  dp : depthT t < 7
  ev : ∀ i, i < m → ∀ j, j < m → i ≠ j → ∃ rt, partT t ((List.range m).filter fun x => !Nat.beq x i) = some rt ∧ depthT rt < 7
def spElse (K : PySem.W.Frag) (nu : Nat → Str) : Sp := fun vs H Q _ => ∃ (p cl : Addr) (n m : Nat) (Hb : Hp) (t : T) (v vn : V), vs = [.ref p, v, vn] ∧ ElOk t m ∧ Pen n H p cl ∧ n + 2 ≤ 10000 ∧ Ex Hb H ∧ Hb p = none ∧ Dp K Hb v (treeD nu t) ∧ Dp K Hb vn (lotN nu (List.range m)) ∧
  ∀ (i j : Nat) (u : V) (Hb' H' : Hp), i < m → j < m → KnP p Hb H Hb' H' → Pen (n + 2) H' p cl → Dp K Hb' u (treeD nu (elseT t m i j)) → Q u H'
abbrev N_Lelse : List Str := ["_law_pen_here", "_law_tree_here", "_law_names_here", "_law_name", "_law_mate", "_law_rest", "_law_one"]
abbrev P_Lelse : List Str := ["_law_pen_here", "_law_tree_here", "_law_names_here"]
theorem sc_Lelse : FnScope N_Lelse P_Lelse (defScope s_Lelsewhere) := ⟨rfl, rfl, rfl, by decide +kernel, rfl, by decide +kernel, by decide +kernel⟩
theorem ok_Lelse {k : Nat} (N : Nu nu) (hk : 1 ≤ k) (F : FnP K "_law_elsewhere" s_Lelsewhere f fd) (B : Bi mg) (K1 : Kept P w K mg base "_law_draw" 1 P_Lnames spDraw f1 fd1)
    (K4 : Kept P w K mg base "_law_to" k ["_law_tree_here", "_law_names_here"] (spToL K nu 7) f4 fd4) (K5 : Kept P w K mg base "_law_beside" k P_Lbeside (spBeside K nu 7) f5 fd5) : FnOk P w K mg base CX0 (k + 1) f fd P_Lelse (spElse K nu) := by
  refine F.ok sc_Lelse (fun vs H Q E h => by obtain ⟨p, cl, n, m, Hb, t, v, vn, rfl, _⟩ := h; rfl) (fun cdv A outer s H vs Q E hr h => ?_)
  obtain ⟨p, cl, n, m, Hb, t, v, vn, rfl, ⟨m1, m6, hdp, hev⟩, pn, hn, e, hp, hv, hvn, q⟩ := h
  refine ⟨_, PSs.nox (pss_cons (q_unpack K (i := 3) (j := 4) rfl sc_Lelse.nd rfl rfl (pe_tup (pa_cons (pe_ix (q_ixT K) (pv 2) (p_call K1 hr (pa_cons (pv 0) (pa_cons (p_len K B (pv 2)) pa_nil)) hk) (fun _ _ => rfl)) (pa_cons (pe_ix (q_ixT K) (pv 2) (p_call K1 hr (pa_cons (pv 0) (pa_cons (p_len K B (pv 2)) pa_nil)) hk) (fun _ _ => rfl)) pa_nil))))
    (pss_cons (ps_set (i := 5) sc_Lelse.nd rfl (Or.inl rfl) (p_call K4 hr (pa_cons (pv 1) (pa_cons (p_lcT (own := [("_law_one", 6)]) (j := 6) rfl sc_Lelse.nd rfl (q_tup K (pv 2)) (blkOk_by (N := N_Lelse) (sc := defScope s_Lelsewhere) (by decide +kernel)) (fun _ _ _ _ _ => pt_cmpR (q_neD K hr.units) (pv 6) (pv 3) (nomark _)) (fun _ _ _ _ _ => pv 6)) pa_nil))))
    (pss_one (ps_ret (pe_ifExp (PW.pt (pw_or (pt_cmpR (q_eqD K hr.units) (pv 3) (pv 4) (nomark _)) (pw_or1 (pt_cmpR op_isN (pv 5) pe_non (nomark _))))) (pv 1) (p_call K5 hr (pa_cons (pv 5) (pa_cons (pv 4) (pa_cons (pv 3) pa_nil))))))))), ?_⟩
  have kx : ∀ He, Ex Hb He → EvP K p cl 1 (tOp (rIxT K) (tVar 2) (tCall spDraw [] E0 (tCons (tVar 0) (tCons (tCB (rLenX K) (tCons (tVar 2) tNil)) tNil)))) [some (.ref p), some v, some vn, none, none, none, none] He (fun d => ∃ i, i < m ∧ d = nmD nu i) := fun He ee =>
    evp_ixT (ds := ((List.range m).map nu).map .str) (evd_var rfl (dp_mono ee _ _ hvn)) (fun Hc ec => evp_draw rfl (e_len (n := m) (evd_var rfl (dp_mono (ee.trans ec) _ _ hvn)) (by rw [dlen_lot, List.length_range]) (by omega)) (by omega) (by omega)) fun d hd => by
      obtain ⟨kk, rfl, q0, q1⟩ := hd
      have hj : kk.toNat < m := by omega
      refine ⟨kk, nmD nu kk.toNat, rfl, ?_, kk.toNat, hj, rfl⟩
      rw [nms_eq]
      exact atI_map (nmD nu) (xs := List.range m) (j := kk.toNat) (by rw [List.getElem?_range hj]) (by omega)
  refine kx Hb (Evl.Ex.refl _) n H e hp pn (by omega) _ fun d u1 H1b H1 hd kp1 pn1 hu1 => ?_
  obtain ⟨i, hi, rfl⟩ := hd
  cases hu1
  refine kx H1b kp1.bas (n + 1) H1 kp1.sub (kp1.hidP hp pn.live) pn1 (by omega) _ fun d u2 H2b H2 hd kp2 pn2 hu2 => ?_
  obtain ⟨j, hj, rfl⟩ := hd
  cases hu2
  have kpA := kp1.trans kp2
  refine ⟨Evl.sz_of (by exact (by decide : 2 ≤ 100000)), fun pt hpt => ⟨pt, [.str (nu i), .str (nu j)], rfl, SqT.of upd_same, rfl, .str (nu i), [.str (nu j)], rfl, .str (nu j), [], rfl, rfl, ?_⟩⟩
  have kpB := kpA.new (o := .tup [.str (nu i), .str (nu j)]) hpt
  have pn3 := pn2.ex_ (Evl.Ex.new (o := .tup [.str (nu i), .str (nu j)]) hpt)
  generalize upd H2b pt (.tup [.str (nu i), .str (nu j)]) = Hc at kpB
  generalize upd H2 pt (.tup [.str (nu i), .str (nu j)]) = H3 at kpB pn3
  have hv3 := dp_mono kpB.bas _ _ hv
  have hvn3 := dp_mono kpB.bas _ _ hvn
  have kr : EvD K (tCall (spToL K nu 7) [] E0 (tCons (tVar 1) (tCons (tLc (iTup K (tVar 2)) (gName 6) (tTest (tOp (rNeD K) (tVar 6) (tVar 3))) (tVar 6) [6]) tNil))) [some (.ref p), some v, some vn, some (.str (nu i)), some (.str (nu j)), none, none] Hc (optD nu (partT t ((List.range m).filter fun x => !Nat.beq x i))) := by
    refine evd_call (eva_cons (evd_var rfl hv3) (eva_cons (evb_lc (bs := List.range m) (enc := nmD nu) (fun x => !Nat.beq x i) (nmD nu) (wad_tup (evd_is (evd_var rfl hvn3) (lotN_eq _).symm)) (by rw [List.length_range]; omega) (fun _ => rfl) (fun x hx u Hd e3 hd => ?_) fun x hx _ u Hd e3 hd => evd_var rfl hd).asD eva_nil)) ((t, (List.range m).filter fun x => !Nat.beq x i), true) ⟨hdp, by decide⟩ ?_
    · exact evt_is (evt_test (evd_op (evd_var (d := nmD nu x) rfl hd) (evd_var (d := nmD nu i) rfl (.str _)) (rd_neD (shaped_nm N x) (shaped_nm N i) (by simp [nd]) (by simp [nd])))) (congrArg Bool.not (eqv_tree N (.leaf x) (.leaf i)))
    · show [treeD nu t, PyData.list _] = [treeD nu t, PyData.list _]
      rw [nms_eq]
  refine sd_set (K := K) (Hb := Hc) kr kpB.sub fun vr Hd H4 k4 hvr => ?_
  have kpC := kpB.trans (k4.pen kpB.live)
  have hv4 := dp_mono k4.bas _ _ hv3
  have kt : EvT (tOr (tTest (tOp (rEqD K) (tVar 3) (tVar 4))) (tTest (tOp (fun x y H Q => y = .non ∧ Q (.bl (decide (x = .non))) H) (tVar 5) (tC .non)))) [some (.ref p), some v, some vn, some (.str (nu i)), some (.str (nu j)), some vr, none] Hd (Nat.beq i j || isNone (optD nu (partT t ((List.range m).filter fun x => !Nat.beq x i)))) :=
    evt_or (evt_is (evt_test (evd_op (evd_var (d := nmD nu i) rfl (.str _)) (evd_var (d := nmD nu j) rfl (.str _)) (rd_eqD (shaped_nm N i) (shaped_nm N j) (by simp [nd]) (by simp [nd])))) (eqv_tree N (.leaf i) (.leaf j))) fun _ => evt_test (evd_op (evd_var rfl hvr) evd_non rd_isN)
  refine sd_ret (K := K) (Hb := Hd) (d := treeD nu (elseT t m i j)) (evd_if kt (fun z => ?_) fun z => ?_) k4.sub fun u Hb' H' k5 hu => q i j u Hb' H' hi hj (kpC.trans (k5.pen kpC.live)) (pn3.ex_ (k4.cur.trans k5.cur)) hu
  · have e1 : elseT t m i j = t := by
      unfold elseT
      cases hb : Nat.beq i j with
      | true => rfl
      | false =>
        have hne := nbeq_not hb
        obtain ⟨rt, er, _⟩ := hev i hi j hj hne
        rw [hb, er, isNone_opt] at z
        cases z
    rw [e1]
    exact evd_var rfl hv4
  · obtain ⟨z1, z2⟩ := Bool.or_eq_false_iff.mp z
    obtain ⟨rt, er, hr7⟩ := hev i hi j hj (nbeq_not z1)
    have e1 : elseT t m i j = besideT j (.leaf i) rt := by
      unfold elseT
      rw [z1, er]
      rfl
    rw [e1]
    rw [er] at hvr
    exact evd_call (eva_cons (evd_var rfl hvr) (eva_cons (evd_var (d := nmD nu j) rfl (.str _)) (eva_cons (evd_var (d := nmD nu i) rfl (.str _)) eva_nil))) ((rt, j), T.leaf i) (And.intro hr7 (by decide)) rfl
end
end Jt

set_option Elab.async false
set_option linter.all false
set_option maxRecDepth 100000
set_option maxHeartbeats 1000000
/-! The law's names; what the plain law says of one turn. -/
namespace Jt
open PySem PySem.Spec PyProof.Rows L2 PySem.W
structure NmOk (nu mu : Nat → Str) (sg : Str) (N0 : Nat) : Prop where
  mono : Nu mu
  hmu : ∀ i, i < N0 → mu i = sg ++ cutS (nu i) none (some 7)
  sg : sg.length ≤ 100
  len : ∀ i, i < N0 → (nu i).length ≤ 1000 ∧ (cutS (nu i) none (some 7)).length ≤ 1000
def xName (i : Nat) : Str := ("x" : Str) ++ cutS (thN i) none (some 7)
def yName (i : Nat) : Str := ("y" : Str) ++ cutS (thN i) none (some 7)
def l26 : List Str := (List.range 13).map xName ++ (List.range 13).map yName
def th26 : Nat → Str := ext l26
theorem th26_nu : Nu th26 := ext_nu (by decide +kernel) (by decide +kernel)
theorem th26_low : ((List.range 26).all fun i => nameLow (th26 i) && nameOk (th26 i)) = true := by decide +kernel
theorem th26_at : ((List.range 13).all fun i => (th26 i == xName i && th26 (13 + i) == yName i) && (decide ((thN i).length ≤ 1000) && decide ((cutS (thN i) none (some 7)).length ≤ 1000))) = true := by decide +kernel
theorem th_facts {i : Nat} (h : i < 13) : th26 i = xName i ∧ th26 (13 + i) = yName i ∧ (thN i).length ≤ 1000 ∧ (cutS (thN i) none (some 7)).length ≤ 1000 := by
  have := List.all_eq_true.mp th26_at i (List.mem_range.mpr h)
  obtain ⟨a, b⟩ := Bool.and_eq_true_iff.mp this
  obtain ⟨a1, a2⟩ := Bool.and_eq_true_iff.mp a
  obtain ⟨b1, b2⟩ := Bool.and_eq_true_iff.mp b
  exact ⟨beq_iff_eq.mp a1, beq_iff_eq.mp a2, of_decide_eq_true b1, of_decide_eq_true b2⟩
/-- good choices of names -/
structure Ch (l : List Nat) : Prop where
  up : l.Pairwise (· < ·)
  sm : ∀ i ∈ l, i < 13
def comb (l1 l2 : List Nat) : List Nat := l1 ++ l2.map (13 + ·)
theorem comb_up {l1 l2 : List Nat} (h1 : Ch l1) (h2 : Ch l2) : (comb l1 l2).Pairwise (· < ·) ∧ ∀ i ∈ comb l1 l2, i < 26 := by
  refine ⟨List.pairwise_append.mpr ⟨h1.up, List.pairwise_map.mpr (h2.up.imp fun q => by omega), fun a ha b hb => ?_⟩, fun i hi => ?_⟩
  · obtain ⟨c, _, rfl⟩ := List.mem_map.mp hb
    have := h1.sm a ha
    show a < 13 + c
    omega
  · rcases List.mem_append.mp hi with z | z
    · have := h1.sm i z; omega
    · obtain ⟨c, hc, rfl⟩ := List.mem_map.mp z
      have := h2.sm c hc
      show 13 + c < 26
      omega
def nuE (l : List Nat) : Nat → Str := ext (l.map th26)
theorem nuE_nu {l : List Nat} (h : l.Pairwise (· < ·)) (hs : ∀ i ∈ l, i < 26) : Nu (nuE l) := ext_nu (List.pairwise_map.mpr (h.imp fun q => th26_nu.mono _ _ q)) fun x hx => by
  obtain ⟨i, hi, rfl⟩ := List.mem_map.mp hx
  exact (Bool.and_eq_true_iff.mp (List.all_eq_true.mp th26_low i (List.mem_range.mpr (hs i hi)))).1
theorem nuE_at {l : List Nat} {i : Nat} (h : i < l.length) : nuE l i = th26 l[i] := by
  show ext (l.map th26) i = _
  rw [ext_lt (by simpa using h), List.getElem_map]
theorem nuE_ok {l : List Nat} (hs : ∀ i ∈ l, i < 26) {i : Nat} (h : i < l.length) : nameOk (nuE l i) = true := by
  rw [nuE_at h]
  exact (Bool.and_eq_true_iff.mp (List.all_eq_true.mp th26_low _ (List.mem_range.mpr (hs _ (List.getElem_mem h))))).2
theorem nuL_at {l : List Nat} {i : Nat} (h : i < l.length) : nuL l i = thN l[i] := by
  show ext (l.map thN) i = _
  rw [ext_lt (by simpa using h), List.getElem_map]
theorem nmX {l : List Nat} (h : Ch l) : NmOk (nuL l) (nuE l) "x" l.length where
  mono := nuE_nu h.up fun i hi => by have := h.sm i hi; omega
  hmu := fun i hi => by
    rw [nuE_at hi, nuL_at hi, (th_facts (h.sm _ (List.getElem_mem hi))).1]
    rfl
  sg := by decide
  len := fun i hi => by
    have := th_facts (h.sm _ (List.getElem_mem hi))
    rw [nuL_at hi]
    exact this.2.2
theorem nmY {l : List Nat} (h : Ch l) : NmOk (nuL l) (nuE (l.map (13 + ·))) "y" l.length where
  mono := nuE_nu (List.pairwise_map.mpr (h.up.imp fun q => by omega)) fun i hi => by
    obtain ⟨c, hc, rfl⟩ := List.mem_map.mp hi
    have := h.sm c hc
    show 13 + c < 26
    omega
  hmu := fun i hi => by
    rw [nuE_at (by simpa using hi), nuL_at hi, List.getElem_map, (th_facts (h.sm _ (List.getElem_mem hi))).2.1]
    rfl
  sg := by decide
  len := fun i hi => by
    have := th_facts (h.sm _ (List.getElem_mem hi))
    rw [nuL_at hi]
    exact this.2.2
theorem treeD_same {nu mu : Nat → Str} : ∀ t : T, (∀ i ∈ leaves t, nu i = mu i) → treeD nu t = treeD mu t
  | .leaf i, h => by
    show PyData.str _ = PyData.str _
    rw [h i (List.mem_singleton.mpr rfl)]
  | .fork a b, h => by
    show PyData.tuple [treeD nu a, treeD nu b] = PyData.tuple [treeD mu a, treeD mu b]
    rw [treeD_same a fun i hi => h i (List.mem_append_left _ hi), treeD_same b fun i hi => h i (List.mem_append_right _ hi)]
theorem treeD_shift {nu : Nat → Str} (n : Nat) : ∀ t : T, treeD (fun i => nu (n + i)) t = treeD nu (shiftT n t)
  | .leaf i => rfl
  | .fork a b => by
    show PyData.tuple [treeD _ a, treeD _ b] = PyData.tuple [treeD nu (shiftT n a), treeD nu (shiftT n b)]
    rw [treeD_shift n a, treeD_shift n b]
theorem shift_leaves (n : Nat) : ∀ t : T, leaves (shiftT n t) = (leaves t).map (n + ·)
  | .leaf i => rfl
  | .fork a b => by
    show leaves (shiftT n a) ++ leaves (shiftT n b) = (leaves a ++ leaves b).map _
    rw [shift_leaves n a, shift_leaves n b, List.map_append]
theorem x_tree {l1 l2 : List Nat} {t : T} (h : ∀ i ∈ leaves t, i < l1.length) : treeD (nuE l1) t = treeD (nuE (comb l1 l2)) t := treeD_same t fun i hi => by
  have h1 := h i hi
  rw [nuE_at h1, nuE_at (by unfold comb; rw [List.length_append]; omega)]
  unfold comb
  rw [List.getElem_append_left h1]
theorem y_tree {l1 l2 : List Nat} {t : T} (h : ∀ i ∈ leaves t, i < l2.length) : treeD (nuE (l2.map (13 + ·))) t = treeD (nuE (comb l1 l2)) (shiftT l1.length t) := by
  rw [← treeD_shift]
  refine treeD_same t fun i hi => ?_
  have h1 := h i hi
  rw [nuE_at (by simpa using h1), nuE_at (by unfold comb; rw [List.length_append, List.length_map]; omega)]
  unfold comb
  rw [List.getElem_append_right (by omega)]
  congr 1
  simp
theorem allT_lv {n : Nat} (hn : n ≤ 3) {t : T} (h : t ∈ allT n) : (∀ i ∈ leaves t, i < n) ∧ ∀ i ∈ leaves (reT t), i < n := by
  have k : ((List.range 4).all fun n => (allT n).all fun t => (leaves t).all (fun i => Nat.blt i n) && (leaves (reT t)).all fun i => Nat.blt i n) = true := by decide +kernel
  obtain ⟨a, b⟩ := Bool.and_eq_true_iff.mp (List.all_eq_true.mp (List.all_eq_true.mp k n (List.mem_range.mpr (by omega))) t h)
  exact ⟨fun i hi => by have := List.all_eq_true.mp a i hi; rwa [Nat.blt_eq] at this, fun i hi => by have := List.all_eq_true.mp b i hi; rwa [Nat.blt_eq] at this⟩
theorem pairB_ok {a b : T} (h : pairB a b = true) : Pair a b := by
  obtain ⟨h1, h⟩ := Bool.and_eq_true_iff.mp (show _ = true from h)
  obtain ⟨h2, h⟩ := Bool.and_eq_true_iff.mp h
  obtain ⟨h3, h⟩ := Bool.and_eq_true_iff.mp h
  obtain ⟨h4, h5⟩ := Bool.and_eq_true_iff.mp h
  rw [Nat.blt_eq] at h1 h2
  have h5 := eqB_iff.mp h5
  refine ⟨h1, h2, Nat.le_of_ble_eq_true h3, ?_, ?_⟩
  · have hs := strictB_ok h4
    have : (namesT a).Nodup := hs.imp fun q => Nat.ne_of_lt q
    exact (sortN_perm _).nodup_iff.mp this
  · have := (sortN_perm (leaves b)).symm
    have e : sortN (leaves b) = sortN (leaves a) := h5.symm
    rw [e] at this
    exact this.trans (sortN_perm _)
theorem fork_leaves (a b : T) : (leaves (forkN a b)).Perm (leaves a ++ leaves b) := by
  unfold forkN
  cases Nat.blt (firstT b) (firstT a) with
  | true => exact List.perm_append_comm
  | false => exact .refl _
theorem hung_leaves (i : Nat) (k : T) : ∀ t : T, ∀ x ∈ leaves (hungT i k t), x ∈ leaves t ∨ x ∈ leaves k
  | .leaf j, x, h => by
    have h' : x ∈ leaves (cond (Nat.beq j i) k (.leaf j)) := h
    cases hb : Nat.beq j i with
    | true => rw [hb] at h'; exact .inr h'
    | false => rw [hb] at h'; exact .inl h'
  | .fork a b, x, h => by
    have h' : x ∈ leaves (forkN (hungT i k a) (hungT i k b)) := h
    rcases List.mem_append.mp ((fork_leaves _ _).mem_iff.mp h') with z | z
    · rcases hung_leaves i k a x z with y | y
      · exact .inl (List.mem_append_left _ y)
      · exact .inr y
    · rcases hung_leaves i k b x z with y | y
      · exact .inl (List.mem_append_right _ y)
      · exact .inr y
theorem isK_ok {o : Option Nat} {k : Nat} (h : isK o k = true) : o = some k := by
  cases o with
  | none => cases h
  | some j => rw [Nat.eq_of_beq_eq_true h]
theorem isLe_ok {o : Option Nat} {k : Nat} (h : isLe o k = true) : ∃ j, o = some j ∧ j ≤ k := by
  cases o with
  | none => cases h
  | some j => exact ⟨j, rfl, Nat.le_of_ble_eq_true h⟩
/-- what one turn rests on -/
structure Turn1 (nu : Nat → Str) (m : Nat) (a b c d : T) : Prop where
  k : ∃ k1 k2 j1 j2 : Nat, ManyOk nu ⟨a, b, true, k1⟩ ∧ ManyOk nu ⟨c, d, true, k2⟩ ∧ ManyOk nu ⟨forkN a c, forkN b d, true, k1 + k2⟩ ∧ ManyOk nu ⟨hungT (headN (namesT a)) c a, hungT (headN (namesT a)) d b, true, k1 + k2⟩ ∧
    ManyOk nu ⟨forkN a c, forkN b d, false, j1⟩ ∧ j1 ≤ k1 + k2 ∧ ManyOk nu ⟨hungT (headN (namesT a)) c a, hungT (headN (namesT a)) d b, false, j2⟩ ∧ j2 ≤ k1 + k2
  w0 : ManyOk nu ⟨forkN a c, forkN a c, true, 0⟩ ∧ ManyOk nu ⟨forkN a c, forkN a c, false, 0⟩
  nm : namesT (forkN a c) = List.range m
  el : ElOk (forkN a c) m
  es : ∀ i j, i < m → j < m → ∀ r, ManyOk nu ⟨forkN a c, elseT (forkN a c) m i j, r, cond (beqT (elseT (forkN a c) m i j) (forkN a c)) 0 1⟩ ∧ depthT (elseT (forkN a c) m i j) < 7
  pa : Pair a b
  pc : Pair c d
  dpw : depthT (forkN b d) < 7
theorem turn_ok {n1 n2 : Nat} (h1 : 1 ≤ n1) (h13 : n1 ≤ 3) (h2 : 1 ≤ n2) (h23 : n2 ≤ 3) {t1 u1 t2 u2 : T} (a1 : t1 ∈ allT n1) (a2 : u1 ∈ allT n1) (b1 : t2 ∈ allT n2) (b2 : u2 ∈ allT n2) {nu : Nat → Str} (hnm : ∀ i, i < n1 + n2 → nameOk (nu i) = true) :
    Turn1 nu (n1 + n2) (reT t1) (reT u1) (shiftT n1 (reT t2)) (shiftT n1 (reT u2)) := by
  have hA : allA n1 n2 = true := by
    have := List.all_eq_true.mp (List.all_eq_true.mp allA_ok (n1 - 1) (List.mem_range.mpr (by omega))) (n2 - 1) (List.mem_range.mpr (by omega))
    rwa [show n1 - 1 + 1 = n1 by omega, show n2 - 1 + 1 = n2 by omega] at this
  have hW : allW n1 n2 = true := by
    have := List.all_eq_true.mp (List.all_eq_true.mp allW_ok (n1 - 1) (List.mem_range.mpr (by omega))) (n2 - 1) (List.mem_range.mpr (by omega))
    rwa [show n1 - 1 + 1 = n1 by omega, show n2 - 1 + 1 = n2 by omega] at this
  have hA := List.all_eq_true.mp (List.all_eq_true.mp (List.all_eq_true.mp (List.all_eq_true.mp hA t1 a1) u1 a2) t2 b1) u2 b2
  have hW := List.all_eq_true.mp (List.all_eq_true.mp hW t1 a1) t2 b1
  have lx := (allT_lv h13 a1).2
  have ly : ∀ i ∈ leaves (shiftT n1 (reT t2)), i < n1 + n2 := fun i hi => by
    rw [shift_leaves] at hi
    obtain ⟨c, hc, rfl⟩ := List.mem_map.mp hi
    have := (allT_lv h23 b1).2 c hc
    show n1 + c < n1 + n2
    omega
  have nx : ∀ i ∈ leaves (reT t1), nameOk (nu i) = true := fun i hi => hnm i (by have := lx i hi; omega)
  have ny : ∀ i ∈ leaves (shiftT n1 (reT t2)), nameOk (nu i) = true := fun i hi => hnm i (ly i hi)
  have nw : ∀ i ∈ leaves (forkN (reT t1) (shiftT n1 (reT t2))), nameOk (nu i) = true := fun i hi => by
    rcases List.mem_append.mp ((fork_leaves _ _).mem_iff.mp hi) with z | z
    · exact nx i z
    · exact ny i z
  generalize reT t1 = a at *
  generalize reT u1 = b at *
  generalize shiftT n1 (reT t2) = c at *
  generalize shiftT n1 (reT u2) = d at *
  have ng : ∀ i ∈ leaves (hungT (headN (namesT a)) c a), nameOk (nu i) = true := fun i hi => by
    rcases hung_leaves _ _ a i hi with z | z
    · exact nx i z
    · exact ny i z
  unfold chkA at hA
  cases e1 : manyR a b true with
  | none => rw [e1] at hA; cases hA
  | some k1 =>
  cases e2 : manyR c d true with
  | none => rw [e1, e2] at hA; cases hA
  | some k2 =>
  rw [e1, e2] at hA
  obtain ⟨hp, hA⟩ := Bool.and_eq_true_iff.mp (show _ = true from hA)
  obtain ⟨hpa, hpc⟩ := Bool.and_eq_true_iff.mp hp
  obtain ⟨hp2, hA⟩ := Bool.and_eq_true_iff.mp hA
  obtain ⟨hpw, hpg⟩ := Bool.and_eq_true_iff.mp hp2
  obtain ⟨hk, hl⟩ := Bool.and_eq_true_iff.mp hA
  obtain ⟨hk1, hk2⟩ := Bool.and_eq_true_iff.mp hk
  obtain ⟨hl1, hl2⟩ := Bool.and_eq_true_iff.mp hl
  obtain ⟨j1, q1, q2⟩ := isLe_ok hl1
  obtain ⟨j2, q3, q4⟩ := isLe_ok hl2
  unfold chkW at hW
  obtain ⟨w1, w2⟩ := Bool.and_eq_true_iff.mp hW
  obtain ⟨wp, w3⟩ := Bool.and_eq_true_iff.mp w1
  obtain ⟨wn, w4⟩ := Bool.and_eq_true_iff.mp w3
  obtain ⟨wt, wf⟩ := Bool.and_eq_true_iff.mp w4
  have pa := pairB_ok hpa
  have pc := pairB_ok hpc
  have pw := pairB_ok hpw
  have pg := pairB_ok hpg
  have pww := pairB_ok wp
  have each : ∀ i j, i < n1 + n2 → j < n1 + n2 → i ≠ j → ∃ rt, partT (forkN a c) ((List.range (n1 + n2)).filter fun x => !Nat.beq x i) = some rt ∧ depthT rt < 7 ∧ Pair (forkN a c) (besideT j (.leaf i) rt) ∧
      ∀ r, manyR (forkN a c) (besideT j (.leaf i) rt) r = some (cond (beqT (besideT j (.leaf i) rt) (forkN a c)) 0 1) := fun i j hi hj hne => by
    have := List.all_eq_true.mp (List.all_eq_true.mp w2 i (List.mem_range.mpr hi)) j (List.mem_range.mpr hj)
    rw [nbeq_of hne] at this
    cases er : partT (forkN a c) ((List.range (n1 + n2)).filter fun x => !Nat.beq x i) with
    | none => rw [er] at this; cases this
    | some rt =>
      rw [er] at this
      obtain ⟨g1, g2⟩ := Bool.and_eq_true_iff.mp (show (Nat.blt (depthT rt) 7 && _) = true from this)
      obtain ⟨g3, g4⟩ := Bool.and_eq_true_iff.mp g2
      obtain ⟨g5, g6⟩ := Bool.and_eq_true_iff.mp g4
      rw [Nat.blt_eq] at g1
      exact ⟨rt, rfl, g1, pairB_ok g3, fun r => by cases r; exact isK_ok g6; exact isK_ok g5⟩
  refine ⟨⟨k1, k2, j1, j2, ⟨pa, nx, e1⟩, ⟨pc, ny, e2⟩, ⟨pw, nw, isK_ok hk1⟩, ⟨pg, ng, isK_ok hk2⟩, ⟨pw, nw, q1⟩, q2, ⟨pg, ng, q3⟩, q4⟩, ⟨⟨pww, nw, isK_ok wt⟩, ⟨pww, nw, isK_ok wf⟩⟩, eqB_iff.mp wn, ⟨by omega, by omega, pww.dpa, fun i hi j hj hne => ?_⟩, fun i j hi hj r => ?_, pa, pc, pw.dpb⟩
  · obtain ⟨rt, er, g, _⟩ := each i j hi hj hne
    exact ⟨rt, er, g⟩
  · by_cases hne : i = j
    · subst hne
      have e3 : elseT (forkN a c) (n1 + n2) i i = forkN a c := by unfold elseT; rw [Nat.beq_refl]; rfl
      rw [e3, (beqT_iff _ _).mpr rfl]
      exact ⟨⟨pww, nw, by cases r; exact isK_ok wf; exact isK_ok wt⟩, pww.dpa⟩
    · obtain ⟨rt, er, g, gp, gm⟩ := each i j hi hj hne
      have e3 : elseT (forkN a c) (n1 + n2) i j = besideT j (.leaf i) rt := by unfold elseT; rw [nbeq_of hne, er]; rfl
      rw [e3]
      exact ⟨⟨gp, nw, gm r⟩, gp.dpb⟩
end Jt

set_option Elab.async false
set_option linter.all false
set_option maxRecDepth 100000
set_option maxHeartbeats 1000000
/-! law. -/
namespace Jt
open PySem PySem.Spec PyProof.Rows L2 PySem.W
section
variable {P : Program} {w : World} {K : PySem.W.Frag} {mg : Str → Option Value} {base : Heap} {f f0 f1 f2 f3 f4 f5 f6 f7 f8 : Addr} {fd fd0 fd1 fd2 fd3 fd4 fd5 fd6 fd7 fd8 : FuncData} {nu : Nat → Str}
def spNamedA (K : PySem.W.Frag) : Sp := fun vs H Q E => ∃ nu mu sg N0, NmOk nu mu sg N0 ∧ spNamed K nu mu sg N0 7 vs H Q E
theorem evd_named {σ : L2.St} {Hb : Hp} {tr : TA} {E : XK} {mu : Nat → Str} {sg : Str} {N0 : Nat} {t : T} (nm : NmOk nu mu sg N0) (h : EvA K tr σ Hb [treeD nu t, .str sg]) (hd : depthT t < 7) (hl : ∀ i ∈ leaves t, i < N0) : EvD K (tCall (spNamedA K) [] E tr) σ Hb (treeD mu (reT t)) := fun H e Q q =>
  h H e _ fun vs H1 H2 k hv => ⟨nu, mu, sg, N0, nm, t, H1, ⟨⟨hd, by decide⟩, hl⟩, k.sub, by rw [List.append_nil]; exact hv, fun v H3 H4 k2 hv2 => q v H3 H4 (k.trans k2) hv2⟩
theorem evd_many {σ : L2.St} {Hb : Hp} {tr : TA} {E : XK} {a b : T} {r : Bool} {k : Nat} (N : Nu nu) (o : ManyOk nu ⟨a, b, r, k⟩) (h : EvA K tr σ Hb [treeD nu a, treeD nu b, .bool r]) : EvD K (tCall (spAny (spMany K)) [] E tr) σ Hb (.int (k : Nat)) :=
  evd_callA (ι := fun _ => ManyI) (ok := fun nu => ManyOk nu) (arg := fun nu (x : ManyI) => [treeD nu x.a, treeD nu x.b, .bool x.ring]) (res := fun _ (x : ManyI) => .int (x.k : Nat)) N h (ManyI.mk a b r k) o rfl
theorem rcd_intb {b : Bool} : RCD K (fun xs H Q => (∃ i, xs = [.int i] ∧ Q (.int i) H) ∨ ∃ k, xs = [.bl k] ∧ Q (.int (if k then 1 else 0)) H) [.bool b] (.int (if b then 1 else 0)) := fun xs Hb H e h Q q => by
  cases h with
  | cons h1 h2 => cases h1; cases h2; exact .inr ⟨_, rfl, q _ Hb H (Kn.refl e) (.int _)⟩
theorem atI_head {l : List Nat} (h : l ≠ []) : atI ((l.map nu).map PyData.str) 0 = some (nmD nu (headN l)) := by
  cases l with
  | nil => exact absurd rfl h
  | cons i r =>
    rw [nms_eq]
    exact atI_map (nmD nu) (xs := i :: r) (j := 0) rfl rfl
def Pr1 (K : PySem.W.Frag) (Hc : Hp) (v : V) (mu : List Nat → List Nat) (l : List Nat) (t u : T) : Prop := Ch l ∧ 1 ≤ l.length ∧ l.length ≤ 3 ∧ t ∈ allT l.length ∧ u ∈ allT l.length ∧ Dp K Hc v (.tuple [treeD (nuE (mu l)) (reT t), treeD (nuE (mu l)) (reT u)])
theorem Pr1.mono {Hc Hd : Hp} {v : V} {mu : List Nat → List Nat} {l : List Nat} {t u : T} (h : Pr1 K Hc v mu l t u) (e : Ex Hc Hd) : Pr1 K Hd v mu l t u := ⟨h.1, h.2.1, h.2.2.1, h.2.2.2.1, h.2.2.2.2.1, dp_mono e _ _ h.2.2.2.2.2⟩
def Prs (K : PySem.W.Frag) : Nat → Hp → List V → Prop
  | 0, _, xs => xs = []
  | 1, Hc, xs => ∃ v l t u, xs = [v] ∧ Pr1 K Hc v id l t u
  | _, Hc, xs => ∃ v l t u v2 l2 t2 u2, xs = [v, v2] ∧ Pr1 K Hc v id l t u ∧ Pr1 K Hc v2 (fun l => l.map (13 + ·)) l2 t2 u2
theorem prs_len {Hc : Hp} {xs : List V} : ∀ {s : Nat}, Prs K s Hc xs → xs.length ≤ 2
  | 0, h => by rw [show xs = [] from h]; exact Nat.zero_le _
  | 1, h => by obtain ⟨v, _, _, _, rfl, _⟩ := h; exact (by decide : 1 ≤ 2)
  | n + 2, h => by obtain ⟨v, _, _, _, v2, _, _, _, rfl, _⟩ := h; exact (by decide : 2 ≤ 2)
def spLaw (K : PySem.W.Frag) : Sp := fun vs H Q _ => ∃ (a : Addr) (ns : List Int), vs = [.ref a] ∧ SqL K H a (ns.map V.int) ∧ ∀ H', Q (.bl true) H'
abbrev N_law : List Str := ["_law_script", "_law_pen_here", "_law_turn", "_law_pairs", "_law_sign", "_law_one", "_law_other", "_law_wide", "_law_k", "_law_name", "_law_hung_here", "_law_both", "_law_names_here", "_law_no_ring"]
theorem sc_law : FnScope N_law ["_law_script"] (defScope s_law) := ⟨rfl, rfl, rfl, by decide +kernel, rfl, by decide +kernel, by decide +kernel⟩
theorem ok_law {k : Nat} (hk : 4 ≤ k) (F : FnP K "law" s_law f fd) (B : Bi mg) (K0 : Kept P w K mg base "_law_pen" 1 ["_law_script"] (spPen K) f0 fd0) (K1 : Kept P w K mg base "_law_draw" 1 P_Lnames spDraw f1 fd1) (K2 : Kept P w K mg base "_law_two" k P_Lnames (spTwo K) f2 fd2)
    (K3 : Kept P w K mg base "_law_named" k P_Lnamed (spNamedA K) f3 fd3) (K4 : Kept P w K mg base "_law_fork" 2 ["_law_parts"] (spAny (spForkOf K)) f4 fd4) (K5 : Kept P w K mg base "_law_below" 1 ["_law_tree_here"] (spAny (spBelowL K)) f5 fd5)
    (K6 : Kept P w K mg base "_law_hung" k P_Lhung (spAny fun nu => spHung K nu 7) f6 fd6) (K7 : Kept P w K mg base "_law_many" k P_Lmany (spAny (spMany K)) f7 fd7) (K8 : Kept P w K mg base "_law_elsewhere" k P_Lelse (spAny (spElse K)) f8 fd8) : FnOk P w K mg base CX0 (k + 1) f fd ["_law_script"] (spLaw K) := by
  refine F.ok sc_law (fun vs H Q E h => by obtain ⟨a, ns, rfl, _⟩ := h; rfl) (fun cdv A outer s H vs Q E hr h => ?_)
  obtain ⟨a, ns, rfl, hs, q⟩ := h
  refine ⟨_, PSs.nox (pss_cons (ps_set (i := 1) sc_law.nd rfl (Or.inl rfl) (p_call K0 hr (pa_cons (pv 0) pa_nil)))
    (pss_cons (ps_for PassesOwn.never rfl (pi_range1 rfl B.range (pa_cons pe_int pa_nil)) (pg_name (i := 2) sc_law.nd rfl (Or.inl rfl))
      (pss_cons (ps_set (i := 3) sc_law.nd rfl (Or.inr rfl) (pe_lst pa_nil))
      (pss_cons (ps_for PassesOwn.never rfl (q_tup K (pe_tup (pa_cons pe_str (pa_cons pe_str pa_nil)))) (pg_name (i := 4) sc_law.nd rfl (Or.inl rfl))
        (pss_cons (q_unpack K (i := 5) (j := 6) rfl sc_law.nd rfl rfl (p_call K2 hr (pa_cons (pv 1) (pa_cons (pe_op op_add pe_int (p_call K1 hr (pa_cons (pv 1) (pa_cons pe_int pa_nil)))) pa_nil))))
        (pss_one (ps_expr (q_bm K PySem.F.slot_list_append PySem.F.type_list_append mt_append (pv 3) (pa_cons (pe_tup (pa_cons (p_call K3 hr (pa_cons (pv 5) (pa_cons (pv 4) pa_nil))) (pa_cons (p_call K3 hr (pa_cons (pv 6) (pa_cons (pv 4) pa_nil))) pa_nil))) pa_nil))))))
      (pss_cons (p_setlc (own := [("_law_k", 8)]) (i := 7) (j := 8) rfl sc_law.nd rfl rfl (pi_range1 rfl B.range (pa_cons pe_int pa_nil)) (blkOk_by (N := N_law) (sc := defScope s_law) (by decide +kernel))
        (fun _ _ _ _ _ => p_call K4 hr (pa_cons (pe_lst (pa_cons (pe_ix (q_ixT K) (pe_ix (q_ixL K) (pv 3) pe_int (fun _ _ => rfl)) (pv 8) (fun _ _ => rfl)) (pa_cons (pe_ix (q_ixT K) (pe_ix (q_ixL K) (pv 3) pe_int (fun _ _ => rfl)) (pv 8) (fun _ _ => rfl)) pa_nil))) pa_nil)))
      (pss_cons (ps_set (i := 9) sc_law.nd rfl (Or.inr rfl) (pe_ix (q_ixT K) (p_call K5 hr (pa_cons (pe_ix (q_ixT K) (pe_ix (q_ixL K) (pv 3) pe_int (fun _ _ => rfl)) pe_int (fun _ _ => rfl)) pa_nil)) pe_int (fun _ _ => rfl)))
      (pss_cons (p_setlc (own := [("_law_k", 8)]) (i := 10) (j := 8) rfl sc_law.nd rfl rfl (pi_range1 rfl B.range (pa_cons pe_int pa_nil)) (blkOk_by (N := N_law) (sc := defScope s_law) (by decide +kernel))
        (fun _ _ _ _ _ => p_call K6 hr (pa_cons (pe_ix (q_ixT K) (pe_ix (q_ixL K) (pv 3) pe_int (fun _ _ => rfl)) (pv 8) (fun _ _ => rfl)) (pa_cons (pv 9) (pa_cons (pe_ix (q_ixT K) (pe_ix (q_ixL K) (pv 3) pe_int (fun _ _ => rfl)) (pv 8) (fun _ _ => rfl)) pa_nil)))))
      (pss_cons (ps_set (i := 11) sc_law.nd rfl (Or.inl rfl) (pe_op op_add
        (p_call K7 hr (pa_cons (pe_ix (q_ixT K) (pe_ix (q_ixL K) (pv 3) pe_int (fun _ _ => rfl)) pe_int (fun _ _ => rfl)) (pa_cons (pe_ix (q_ixT K) (pe_ix (q_ixL K) (pv 3) pe_int (fun _ _ => rfl)) pe_int (fun _ _ => rfl)) (pa_cons pe_bl pa_nil))))
        (p_call K7 hr (pa_cons (pe_ix (q_ixT K) (pe_ix (q_ixL K) (pv 3) pe_int (fun _ _ => rfl)) pe_int (fun _ _ => rfl)) (pa_cons (pe_ix (q_ixT K) (pe_ix (q_ixL K) (pv 3) pe_int (fun _ _ => rfl)) pe_int (fun _ _ => rfl)) (pa_cons pe_bl pa_nil))))))
      (pss_cons (ps_if (PW.pt (pw_or (pt_cmpR op_ne (p_call K7 hr (pa_cons (pe_ix (q_ixL K) (pv 7) pe_int (fun _ _ => rfl)) (pa_cons (pe_ix (q_ixL K) (pv 7) pe_int (fun _ _ => rfl)) (pa_cons pe_bl pa_nil)))) (pv 11) (nomark _))
        (pw_or1 (pt_cmpR op_ne (p_call K7 hr (pa_cons (pe_ix (q_ixL K) (pv 10) pe_int (fun _ _ => rfl)) (pa_cons (pe_ix (q_ixL K) (pv 10) pe_int (fun _ _ => rfl)) (pa_cons pe_bl pa_nil)))) (pv 11) (nomark _))))) (pss_one (ps_ret pe_bl)) pss_nil)
      (pss_cons (ps_if (PW.pt (pw_or (pt_cmpR op_gt (p_call K7 hr (pa_cons (pe_ix (q_ixL K) (pv 7) pe_int (fun _ _ => rfl)) (pa_cons (pe_ix (q_ixL K) (pv 7) pe_int (fun _ _ => rfl)) (pa_cons pe_bl pa_nil)))) (pv 11) (nomark _))
        (pw_or1 (pt_cmpR op_gt (p_call K7 hr (pa_cons (pe_ix (q_ixL K) (pv 10) pe_int (fun _ _ => rfl)) (pa_cons (pe_ix (q_ixL K) (pv 10) pe_int (fun _ _ => rfl)) (pa_cons pe_bl pa_nil)))) (pv 11) (nomark _))))) (pss_one (ps_ret pe_bl)) pss_nil)
      (pss_cons (ps_set (i := 12) sc_law.nd rfl (Or.inl rfl) (p_call K5 hr (pa_cons (pe_ix (q_ixL K) (pv 7) pe_int (fun _ _ => rfl)) pa_nil)))
      (pss_cons (ps_if (PW.pt (pw_or (pt_cmpR op_ne (p_call K7 hr (pa_cons (pe_ix (q_ixL K) (pv 7) pe_int (fun _ _ => rfl)) (pa_cons (pe_ix (q_ixL K) (pv 7) pe_int (fun _ _ => rfl)) (pa_cons pe_bl pa_nil)))) pe_int (nomark _))
        (pw_or1 (pt_cmpR op_ne (p_call K7 hr (pa_cons (pe_ix (q_ixL K) (pv 7) pe_int (fun _ _ => rfl)) (pa_cons (pe_ix (q_ixL K) (pv 7) pe_int (fun _ _ => rfl)) (pa_cons pe_bl pa_nil)))) pe_int (nomark _))))) (pss_one (ps_ret pe_bl)) pss_nil)
      (pss_cons (ps_set (i := 6) sc_law.nd rfl (Or.inl rfl) (p_call K8 hr (pa_cons (pv 1) (pa_cons (pe_ix (q_ixL K) (pv 7) pe_int (fun _ _ => rfl)) (pa_cons (pv 12) pa_nil)))))
      (pss_one (ps_for PassesOwn.never rfl (q_tup K (pe_tup (pa_cons pe_bl (pa_cons pe_bl pa_nil)))) (pg_name (i := 13) sc_law.nd rfl (Or.inl rfl))
        (pss_one (ps_if (pt_cmpR op_ne (p_call K7 hr (pa_cons (pe_ix (q_ixL K) (pv 7) pe_int (fun _ _ => rfl)) (pa_cons (pv 6) (pa_cons (pv 13) pa_nil)))) (p_int B (pe_cmpR (q_neD K hr.units) (pv 6) (pe_ix (q_ixL K) (pv 7) pe_int (fun _ _ => rfl)) (nomark _))) (nomark _)) (pss_one (ps_ret pe_bl)) pss_nil))))))))))))))))
    (pss_one (ps_ret pe_bl)))), ?_⟩
  refine ⟨.ref a, rfl, a, ns, rfl, hs, fun p cl H1 hp0 e1 pn1 => ?_⟩
  refine ⟨2, rfl, by decide, by decide, fun i m σ' H' => m = 2 - i ∧ i ≤ 2 ∧ ∃ c2 c3 c4 c5 c6 c7 c8 c9 c10 c11 c12 c13, σ' = [some (.ref a), some (.ref p), c2, c3, c4, c5, c6, c7, c8, c9, c10, c11, c12, c13] ∧ Pen (200 * i) H' p cl,
    ⟨2, rfl, Nat.zero_le _, none, none, none, none, none, none, none, none, none, none, none, none, rfl, pn1⟩, ?_⟩
  rintro i m σ' H2 ⟨rfl, hi, c2, c3, c4, c5, c6, c7, c8, c9, c10, c11, c12, c13, rfl, pn2⟩
  by_cases hge : ¬ i < 2
  · have e2 : i = 2 := by omega
    subst e2
    exact .inl ⟨Nat.le_refl _, q H2⟩
  have hlt : i < 2 := Classical.not_not.mp hge
  refine .inr ⟨by show i < (2 : Int).toNat; omega, _, fun σ3 H3 w => ⟨2 - (i + 1), by omega, rfl, hlt, w⟩, fun x H3 y => ?_⟩
  obtain ⟨eH, -⟩ := y
  subst eH
  have hb0 : Ex (fun _ => none) H3 := fun c o z => (nomatch z)
  have kp0 : KnP p (fun _ => none) H3 (fun _ => none) H3 := KnP.refl hb0 pn2.live
  refine ⟨Nat.zero_le _, fun pl hpl => ?_⟩
  have npl : pl ≠ p := fun y => by rw [y] at hpl; exact pn2.live hpl
  have nplc : pl ≠ cl := fun y => by rw [y] at hpl; exact pn2.liveC hpl
  have kp1 := kp0.own (o := .lst []) hpl rfl npl
  have pn3 := pn2.own (o := .lst []) npl nplc
  have h1pl : upd H3 pl (.lst []) pl = some (.lst []) := upd_same
  generalize upd H3 pl (.lst []) = H4 at kp1 pn3 h1pl
  refine sd_for (K := K) (Hb := fun _ => none) (ds := [.str "x", .str "y"]) (wad_tup (evd_tup (eva_cons evd_str (eva_cons evd_str eva_nil)) (by exact (by decide : 2 ≤ 100000)))) kp1.sub (fun s σ' Hc H' => ∃ c4 c5 c6 xs, σ' = [some (.ref a), some (.ref p), some x, some (.ref pl), c4, c5, c6, c7, c8, c9, c10, c11, c12, c13] ∧
    KnP p (fun _ => none) H3 Hc H' ∧ Hc pl = none ∧ H' pl = some (.lst xs) ∧ Pen (200 * i + 62 * s) H' p cl ∧ Prs K s Hc xs) (fun Hb' H' k => ?h0) (fun s σ' Hc H' ⟨_, _, _, _, _, kp, _⟩ => kp.sub) ?hs ?hd
  case h0 =>
    obtain ⟨g1, g2⟩ := k.hid rfl h1pl
    exact ⟨c4, c5, c6, [], rfl, kp1.trans (k.pen kp1.live), g1, g2, pn3.ex_ k.cur, rfl⟩
  case hs =>
    rintro s d v σ' Hc H' hd ⟨c4', c5', c6', xs, rfl, kp, hplN, hplS, pn', hpr⟩ hv
    have hs2 : s < 2 := (List.getElem?_eq_some_iff.mp hd).1
    obtain ⟨sg, mu, hnm, hdv, hnext⟩ : ∃ (sg : Str) (mu : List Nat → List Nat), (∀ l, Ch l → NmOk (nuL l) (nuE (mu l)) sg l.length) ∧ Dp K Hc v (.str sg) ∧ ∀ v' l t u Hd, Ex Hc Hd → Pr1 K Hd v' mu l t u → Prs K (s + 1) Hd (xs ++ [v']) := by
      match s, hs2, hd, hpr with
      | 0, _, hd, hpr =>
        cases hd
        exact ⟨"x", id, fun l h => nmX h, hv, fun v' l t u Hd ee h => by rw [show xs = [] from hpr]; exact ⟨v', l, t, u, rfl, h⟩⟩
      | 1, _, hd, hpr =>
        cases hd
        obtain ⟨v0, l0, t0, u0, rfl, h0⟩ := hpr
        exact ⟨"y", fun l => l.map (13 + ·), fun l h => nmY h, hv, fun v' l t u Hd ee h => ⟨v0, l0, t0, u0, v', l, t, u, rfl, h0.mono ee, h⟩⟩
    have hcp := kp.hidP rfl pn2.live
    have hxl := prs_len hpr
    refine ⟨.ref p, rfl, .ref p, rfl, p, cl, 3, 200 * i + 62 * s, rfl, by decide, by decide, pn', by omega, fun k H5 k0 k1 pn5 ex5 => ?_⟩
    have kp5 := kp.exc' ex5 hcp pn5.live
    refine ⟨1, k, rfl, rfl, p, cl, 200 * i + 62 * s + 1, (1 + k).toNat, Hc, by show [V.ref p, V.int (1 + k)] = _; rw [Int.toNat_of_nonneg (by omega)], by omega, by omega, pn5, by omega, kp5.sub, hcp, fun l t u v' Hd H6 hll hup h13 ht hu kp6 pn6 hv6 => ?_⟩
    have h5pl := ex5 _ _ npl hplS
    obtain ⟨g1, g2⟩ := kp6.hid npl hplN h5pl
    have ch : Ch l := ⟨hup, h13⟩
    have hl1 : 1 ≤ l.length := by omega
    have hl3 : l.length ≤ 3 := by omega
    rw [← hll] at ht hu
    cases hv6 with
    | @tup at_ xs2 _ hta htx =>
    obtain ⟨w1, w2, rfl, hw1, hw2⟩ := dp2 htx
    refine ⟨at_, [w1, w2], rfl, SqT.of (kp6.sub _ _ hta), rfl, w1, [w2], rfl, w2, [], rfl, rfl, ?_⟩
    have hdv6 := dp_mono kp6.bas _ _ hdv
    refine sd_append (K := K) (Hb := Hd) (d := .tuple [treeD (nuE (mu l)) (reT t), treeD (nuE (mu l)) (reT u)]) (p := pl) rfl g2 (by omega) (evd_tup (eva_cons (evd_named (hnm l ch) (eva_cons (evd_var rfl hw1) (eva_cons (evd_var rfl hdv6) eva_nil)) (allT_dp hl3 ht) (allT_lv hl3 ht).1) (eva_cons (evd_named (hnm l ch) (eva_cons (evd_var rfl hw2) (eva_cons (evd_var rfl hdv6) eva_nil)) (allT_dp hl3 hu) (allT_lv hl3 hu).1) eva_nil)) (by exact (by decide : 2 ≤ 100000))) kp6.sub fun v7 He H7 k7 hv7 => ?_
    obtain ⟨g3, g4⟩ := k7.hid g1 g2
    have kp7 := (kp5.trans kp6).trans (k7.pen kp6.live)
    exact ⟨He, kp6.bas.trans k7.bas, some v, some w1, some w2, xs ++ [v7], rfl, kp7.own hpl g3 npl, g3, upd_same, ((pn6.mono (by omega)).ex_ k7.cur).own npl nplc, hnext v7 l t u He (kp6.bas.trans k7.bas) ⟨ch, hl1, hl3, ht, hu, hv7⟩⟩
  case hd =>
    rintro σ' Hc H' ⟨c4', c5', c6', xs, rfl, kp, hplN, hplS, pnE, hpr⟩
    obtain ⟨v1, l1, t1, u1, v2, l2, t2, u2, rfl, ⟨a1, a2, a3, a4, a5, a6⟩, ⟨b1, b2, b3, b4, b5, b6⟩⟩ := hpr
    have hcu := comb_up a1 b1
    have NN : Nu (nuE (comb l1 l2)) := nuE_nu hcu.1 hcu.2
    have hnmk : ∀ i, i < l1.length + l2.length → nameOk (nuE (comb l1 l2) i) = true := fun i hi => nuE_ok hcu.2 (by unfold comb; rw [List.length_append, List.length_map]; exact hi)
    have TT := turn_ok a2 a3 b2 b3 a4 a5 b4 b5 hnmk
    have d1 : Dp K Hc v1 (.tuple [treeD (nuE (comb l1 l2)) (reT t1), treeD (nuE (comb l1 l2)) (reT u1)]) := by
      rw [← x_tree (l2 := l2) (allT_lv a3 a4).2, ← x_tree (l2 := l2) (allT_lv a3 a5).2]; exact a6
    have d2 : Dp K Hc v2 (.tuple [treeD (nuE (comb l1 l2)) (shiftT l1.length (reT t2)), treeD (nuE (comb l1 l2)) (shiftT l1.length (reT u2))]) := by
      rw [← y_tree (l1 := l1) (allT_lv b3 b4).2, ← y_tree (l1 := l1) (allT_lv b3 b5).2]; exact b6
    generalize nuE (comb l1 l2) = nu at NN TT d1 d2
    generalize l1.length + l2.length = mm at TT
    generalize reT t1 = X0 at TT d1
    generalize reT u1 = X1 at TT d1
    generalize shiftT l1.length (reT t2) = Y0 at TT d2
    generalize shiftT l1.length (reT u2) = Y1 at TT d2
    -- the pairs are read from now on
    have eP : Ex Hc (upd Hc pl (.lst [v1, v2])) := Evl.Ex.new hplN
    have subP : Ex (upd Hc pl (.lst [v1, v2])) H' := fun c o z => by
      by_cases hc : c = pl
      · subst hc; rw [upd_same] at z; cases z; exact hplS
      · rw [upd_ne hc] at z; exact kp.sub c o z
    have kpP : KnP p (fun _ => none) H3 (upd Hc pl (.lst [v1, v2])) H' := ⟨kp.exc, kp.bas.trans eP, subP, fun c o z => by
      by_cases hc : c = pl
      · subst hc; exact .inr hpl
      · rw [upd_ne hc] at z; exact kp.nw c o z, kp.live⟩
    have hpairs : Dp K (upd Hc pl (.lst [v1, v2])) (.ref pl) (.list [.tuple [treeD nu X0, treeD nu X1], .tuple [treeD nu Y0, treeD nu Y1]]) := .lst (.inl (.inl upd_same)) (.cons (dp_mono eP _ _ d1) (.cons (dp_mono eP _ _ d2) .nil))
    generalize upd Hc pl (.lst [v1, v2]) = Hp1 at subP kpP hpairs
    have px : ∀ (σ2 : L2.St) (He : Hp), σ2[3]? = some (some (.ref pl)) → Ex Hp1 He → EvD K (tOp (rIxL K) (tVar 3) (tC (.int 0))) σ2 He (.tuple [treeD nu X0, treeD nu X1]) := fun σ2 He s3 ee => evd_op (evd_var s3 (dp_mono ee _ _ hpairs)) evd_int (rd_ixL rfl)
    have py : ∀ (σ2 : L2.St) (He : Hp), σ2[3]? = some (some (.ref pl)) → Ex Hp1 He → EvD K (tOp (rIxL K) (tVar 3) (tC (.int 1))) σ2 He (.tuple [treeD nu Y0, treeD nu Y1]) := fun σ2 He s3 ee => evd_op (evd_var s3 (dp_mono ee _ _ hpairs)) evd_int (rd_ixL rfl)
    obtain ⟨⟨k1, k2, j1, j2, m1, m2, m3, m4, m5, q5, m6, q6⟩, ⟨w1, w2⟩, hnames, hel, hes, ppa, ppc, hdpw⟩ := TT
    have z2 : (2 : Nat) ≤ 100000 := by decide
    dsimp only
    refine sd_set (K := K) (Hb := Hp1) (d := .list [treeD nu (forkN X0 Y0), treeD nu (forkN X1 Y1)]) ?g1 subP fun vw Hq1 H5 kq1 hw => ?_
    case g1 =>
      refine evd_is (evb_lc1 (bs := List.range 2) (enc := fun (i : Nat) => .int (0 + (i : Int))) (fun i => treeD nu (forkOf [cond (Nat.beq i 0) X0 X1, cond (Nat.beq i 0) Y0 Y1])) (wad_rng1 (hi := 2) (eva_cons evd_int eva_nil) (by decide)) (by exact (by decide : 2 ≤ 40000)) (fun _ => rfl) ?_).asD rfl
      intro kk hkk v Hc2 e3 hd
      have hk2 : kk < 2 := List.mem_range.mp hkk
      refine evd_callA (ι := fun _ => List T) (ok := fun _ (ps : List T) => ∃ a, ps = [a] ∨ ∃ b, ps = [a, b]) (arg := fun nu (ps : List T) => [.list (ps.map (treeD nu))]) (res := fun nu (ps : List T) => treeD nu (forkOf ps)) NN (eva_cons (evn_lst (eva_cons (evd_op (px _ _ rfl e3) (evd_var rfl hd) (rd_ixT (d := treeD nu (cond (Nat.beq kk 0) X0 X1)) ?_)) (eva_cons (evd_op (py _ _ rfl e3) (evd_var rfl hd) (rd_ixT (d := treeD nu (cond (Nat.beq kk 0) Y0 Y1)) ?_)) eva_nil)) z2).asD eva_nil) [cond (Nat.beq kk 0) X0 X1, cond (Nat.beq kk 0) Y0 Y1] ⟨_, .inr ⟨_, rfl⟩⟩ rfl
      · match kk, hk2 with
        | 0, _ => rfl
        | 1, _ => rfl
      · match kk, hk2 with
        | 0, _ => rfl
        | 1, _ => rfl
    have kpQ1 := kpP.trans (kq1.pen kpP.live)
    have x0s : (leaves X0).length ≤ 100 ∧ depthT X0 ≤ 50 := ⟨by have := ppa.few; omega, by have := ppa.dpa; omega⟩
    dsimp only
    refine sd_set (K := K) (Hb := Hq1) (d := nmD nu (headN (namesT X0))) (evd_op (a := lotN nu (namesT X0)) (evd_callA (ι := fun _ => T) (ok := fun _ (t : T) => (leaves t).length ≤ 100 ∧ depthT t ≤ 50) (arg := fun nu (t : T) => [treeD nu t]) (res := fun nu (t : T) => lotN nu (namesT t)) NN (eva_cons (evd_op (px _ _ rfl kq1.bas) evd_int (rd_ixT (d := treeD nu X0) rfl)) eva_nil) X0 x0s rfl) evd_int (rd_ixT (atI_head (by
      have h1 := names_len X0
      have h2 := leaves_pos X0
      intro z
      rw [z] at h1
      rw [← h1] at h2
      exact absurd h2 (by decide))))) kq1.sub fun vm Hq2 H6 kq2 hm => ?_
    have kpQ2 := kpQ1.trans (kq2.pen kpQ1.live)
    have ee2 := kq1.bas.trans kq2.bas
    dsimp only
    refine sd_set (K := K) (Hb := Hq2) (d := .list [treeD nu (hungT (headN (namesT X0)) Y0 X0), treeD nu (hungT (headN (namesT X0)) Y1 X1)]) ?g2 kq2.sub fun vh Hq3 H7 kq3 hh => ?_
    case g2 =>
      refine evd_is (evb_lc1 (bs := List.range 2) (enc := fun (i : Nat) => .int (0 + (i : Int))) (fun i => treeD nu (hungT (headN (namesT X0)) (cond (Nat.beq i 0) Y0 Y1) (cond (Nat.beq i 0) X0 X1))) (wad_rng1 (hi := 2) (eva_cons evd_int eva_nil) (by decide)) (by exact (by decide : 2 ≤ 40000)) (fun _ => rfl) ?_).asD rfl
      intro kk hkk v Hc2 e3 hd
      have hk2 : kk < 2 := List.mem_range.mp hkk
      refine evd_callA (ι := fun _ => BsI) (ok := fun _ (p : BsI) => depthT p.1.1 < 7 ∧ 7 ≤ 50) (arg := fun nu (p : BsI) => [treeD nu p.1.1, nmD nu p.1.2, treeD nu p.2]) (res := fun nu (p : BsI) => treeD nu (hungT p.1.2 p.2 p.1.1)) NN (eva_cons (evd_op (px _ _ rfl (ee2.trans e3)) (evd_var rfl hd) (rd_ixT (d := treeD nu (cond (Nat.beq kk 0) X0 X1)) ?_)) (eva_cons (evd_var rfl (dp_mono e3 _ _ hm)) (eva_cons (evd_op (py _ _ rfl (ee2.trans e3)) (evd_var rfl hd) (rd_ixT (d := treeD nu (cond (Nat.beq kk 0) Y0 Y1)) ?_)) eva_nil))) ((cond (Nat.beq kk 0) X0 X1, headN (namesT X0)), cond (Nat.beq kk 0) Y0 Y1) ⟨?_, by decide⟩ rfl
      · match kk, hk2 with
        | 0, _ => rfl
        | 1, _ => rfl
      · match kk, hk2 with
        | 0, _ => rfl
        | 1, _ => rfl
      · match kk, hk2 with
        | 0, _ => exact ppa.dpa
        | 1, _ => exact ppa.dpb
    have kpQ3 := kpQ2.trans (kq3.pen kpQ2.live)
    have ee3 := ee2.trans kq3.bas
    have hw3 := dp_mono (kq2.bas.trans kq3.bas) _ _ hw
    dsimp only
    refine sd_set (K := K) (Hb := Hq3) (evd_op (evd_many NN m1 (eva_cons (evd_op (px _ _ rfl ee3) evd_int (rd_ixT rfl)) (eva_cons (evd_op (px _ _ rfl ee3) evd_int (rd_ixT rfl)) (eva_cons evd_bl eva_nil)))) (evd_many NN m2 (eva_cons (evd_op (py _ _ rfl ee3) evd_int (rd_ixT rfl)) (eva_cons (evd_op (py _ _ rfl ee3) evd_int (rd_ixT rfl)) (eva_cons evd_bl eva_nil)))) rd_add) kq3.sub fun vb Hq4 H8 kq4 hbth => ?_
    have kpQ4 := kpQ3.trans (kq4.pen kpQ3.live)
    cases hbth
    have hw4 := dp_mono kq4.bas _ _ hw3
    have hh4 := dp_mono kq4.bas _ _ hh
    have np4 : Hq4 p = none := kpQ4.hidP rfl pn2.live
    have pn8 := pnE.ex_ (((kq1.cur.trans kq2.cur).trans kq3.cur).trans kq4.cur)
    have wd0 : ∀ (σ2 : L2.St) (He : Hp), σ2[7]? = some (some vw) → Ex Hq4 He → EvD K (tOp (rIxL K) (tVar 7) (tC (.int 0))) σ2 He (treeD nu (forkN X0 Y0)) := fun σ2 He s7 ee => evd_op (evd_var s7 (dp_mono ee _ _ hw4)) evd_int (rd_ixL rfl)
    have wd1 : ∀ (σ2 : L2.St) (He : Hp), σ2[7]? = some (some vw) → Ex Hq4 He → EvD K (tOp (rIxL K) (tVar 7) (tC (.int 1))) σ2 He (treeD nu (forkN X1 Y1)) := fun σ2 He s7 ee => evd_op (evd_var s7 (dp_mono ee _ _ hw4)) evd_int (rd_ixL rfl)
    have hd0 : ∀ (σ2 : L2.St) (He : Hp), σ2[10]? = some (some vh) → Ex Hq4 He → EvD K (tOp (rIxL K) (tVar 10) (tC (.int 0))) σ2 He (treeD nu (hungT (headN (namesT X0)) Y0 X0)) := fun σ2 He s7 ee => evd_op (evd_var s7 (dp_mono ee _ _ hh4)) evd_int (rd_ixL rfl)
    have hd1 : ∀ (σ2 : L2.St) (He : Hp), σ2[10]? = some (some vh) → Ex Hq4 He → EvD K (tOp (rIxL K) (tVar 10) (tC (.int 1))) σ2 He (treeD nu (hungT (headN (namesT X0)) Y1 X1)) := fun σ2 He s7 ee => evd_op (evd_var s7 (dp_mono ee _ _ hh4)) evd_int (rd_ixL rfl)
    have r4 := Evl.Ex.refl Hq4
    have en : ((k1 + k2 : Nat) : Int) = (k1 : Int) + (k2 : Int) := rfl
    dsimp only
    refine sd_if (Hb := Hq4) (b := false) (evt_is (evt_or (evt_test (evd_op (evd_many NN m3 (eva_cons (wd0 _ _ rfl r4) (eva_cons (wd1 _ _ rfl r4) (eva_cons evd_bl eva_nil)))) (evd_var rfl (.int _)) rd_neI)) (fun _ => evt_test (evd_op (evd_many NN m4 (eva_cons (hd0 _ _ rfl r4) (eva_cons (hd1 _ _ rfl r4) (eva_cons evd_bl eva_nil)))) (evd_var rfl (.int _)) rd_neI))) (by rw [decide_eq_true en]; rfl)) kq4.sub (fun z => nomatch z) fun _ H9 x9 => ?_
    have e9 := kq4.sub.trans x9
    dsimp only
    refine sd_if (Hb := Hq4) (b := false) (evt_is (evt_or (evt_test (evd_op (evd_many NN m5 (eva_cons (wd0 _ _ rfl r4) (eva_cons (wd1 _ _ rfl r4) (eva_cons evd_bl eva_nil)))) (evd_var rfl (.int _)) rd_gt)) (fun _ => evt_test (evd_op (evd_many NN m6 (eva_cons (hd0 _ _ rfl r4) (eva_cons (hd1 _ _ rfl r4) (eva_cons evd_bl eva_nil)))) (evd_var rfl (.int _)) rd_gt))) (by rw [decide_eq_false (by omega), decide_eq_false (by omega)]; rfl)) e9 (fun z => nomatch z) fun _ H10 x10 => ?_
    have e10 := e9.trans x10
    have ws : (leaves (forkN X0 Y0)).length ≤ 100 ∧ depthT (forkN X0 Y0) ≤ 50 := ⟨by have := w1.pr.few; exact Nat.le_trans this (by decide), by have := hel.dp; omega⟩
    dsimp only
    refine sd_set (K := K) (Hb := Hq4) (d := lotN nu (List.range mm)) (evd_is (evd_callA (ι := fun _ => T) (ok := fun _ (t : T) => (leaves t).length ≤ 100 ∧ depthT t ≤ 50) (arg := fun nu (t : T) => [treeD nu t]) (res := fun nu (t : T) => lotN nu (namesT t)) NN (eva_cons (wd0 _ _ rfl r4) eva_nil) (forkN X0 Y0) ws rfl) (by rw [hnames])) e10 fun vn Hq5 H11 kq5 hvn => ?_
    dsimp only
    refine sd_if (Hb := Hq5) (b := false) (evt_is (evt_or (evt_test (evd_op (evd_many NN w1 (eva_cons (wd0 _ _ rfl kq5.bas) (eva_cons (wd0 _ _ rfl kq5.bas) (eva_cons evd_bl eva_nil)))) evd_int rd_neI)) (fun _ => evt_test (evd_op (evd_many NN w2 (eva_cons (wd0 _ _ rfl kq5.bas) (eva_cons (wd0 _ _ rfl kq5.bas) (eva_cons evd_bl eva_nil)))) evd_int rd_neI))) rfl) kq5.sub (fun z => nomatch z) fun _ H12 x12 => ?_
    have e12 := kq5.sub.trans x12
    have kp12 : KnP p (fun _ => none) H3 Hq5 H12 := by
      have kk := kpQ4.exc' (fun c o _ z => x9 c o z) np4 (pn8.ex_ x9).live
      have kk := kk.exc' (fun c o _ z => x10 c o z) np4 ((pn8.ex_ x9).ex_ x10).live
      have kk := kk.trans (kq5.pen kk.live)
      exact kk.exc' (fun c o _ z => x12 c o z) (kk.hidP rfl pn2.live) ((((pn8.ex_ x9).ex_ x10).ex_ kq5.cur).ex_ x12).live
    have pn12 : Pen (200 * i + 124) H12 p cl := (((pn8.ex_ x9).ex_ x10).ex_ kq5.cur).ex_ x12
    dsimp only
    refine ⟨.ref p, rfl, wd0 _ _ rfl kq5.bas H12 e12 _ fun v6 Hq6 H13 k6 hv6 => ?_⟩
    have np6 : Hq6 p = none := (kp12.trans (k6.pen kp12.live)).hidP rfl pn2.live
    have pn13 := pn12.ex_ k6.cur
    refine ⟨vn, rfl, nu, NN, p, cl, 200 * i + 124, mm, Hq6, forkN X0 Y0, v6, vn, rfl, hel, pn13, by omega, k6.sub, np6, hv6, dp_mono k6.bas _ _ hvn, fun ii jj u Hq7 H14 hii hjj kp14 pn14 hu => ?_⟩
    have b7 := (kq5.bas.trans k6.bas).trans kp14.bas
    obtain ⟨hes2, hed⟩ : (∀ r, ManyOk nu ⟨forkN X0 Y0, elseT (forkN X0 Y0) mm ii jj, r, cond (beqT (elseT (forkN X0 Y0) mm ii jj) (forkN X0 Y0)) 0 1⟩) ∧ depthT (elseT (forkN X0 Y0) mm ii jj) < 7 := ⟨fun r => (hes ii jj hii hjj r).1, (hes ii jj hii hjj true).2⟩
    have hfd := hel.dp
    generalize elseT (forkN X0 Y0) mm ii jj = E0t at hes2 hed hu
    dsimp only
    refine sd_for (K := K) (Hb := Hq7) (ds := [.bool true, .bool false]) (wad_tup (evd_tup (eva_cons evd_bl (eva_cons evd_bl eva_nil)) (by exact (by decide : 2 ≤ 100000)))) kp14.sub (fun s σ' Hc H' => ∃ c13', σ' = [some (.ref a), some (.ref p), some x, some (.ref pl), c4', c5', some u, some vw, c8, some vm, some vh, some (.int ((k1 : Int) + (k2 : Int))), some vn, c13'] ∧ Ex Hq7 Hc ∧ Ex Hc H' ∧ Pen (200 * i + 124 + 2) H' p cl) (fun Hb' H' kk => ⟨_, rfl, kk.bas, kk.sub, pn14.ex_ kk.cur⟩) (fun s σ' Hc H' ⟨_, _, _, z, _⟩ => z) ?es ?ed
    case es =>
      rintro s d v σ' Hc H' hd ⟨c13', rfl, ec, eh, pp⟩ hv
      obtain ⟨r, rfl⟩ : ∃ r, d = .bool r := by
        match s, hd with
        | 0, hd => cases hd; exact ⟨_, rfl⟩
        | 1, hd => cases hd; exact ⟨_, rfl⟩
      dsimp only
      have ee := b7.trans ec
      refine sd_if (Hb := Hc) (b := false) (evt_is (evt_test (evd_op (evd_many NN (hes2 r) (eva_cons (wd0 _ _ rfl ee) (eva_cons (evd_var rfl (dp_mono ec _ _ hu)) (eva_cons (evd_var rfl hv) eva_nil)))) (evd_cb (eva_cons (evd_op (evd_var rfl (dp_mono ec _ _ hu)) (wd0 _ _ rfl ee) (rd_neD (shaped_tree NN (by omega)) (shaped_tree NN (by omega)) (tree_shape NN _).2.2 (tree_shape NN _).2.2)) eva_nil) rcd_intb) rd_neI)) (by rw [eqv_tree NN]; cases beqT E0t (forkN X0 Y0) <;> rfl)) eh (fun z => nomatch z) fun _ H15 x15 => ?_
      exact ⟨Hc, Evl.Ex.refl _, _, rfl, ec, eh.trans x15, pp.ex_ x15⟩
    case ed =>
      rintro σ' Hc H' ⟨c13', rfl, ec, eh, pp⟩
      exact ⟨_, _, _, _, _, _, _, _, _, _, _, _, rfl, pp.mono (by omega)⟩
end
end Jt

set_option Elab.async false
set_option linter.all false
set_option maxRecDepth 100000
set_option maxHeartbeats 0
/-! the facts of the head, the levels, the law. -/
namespace Jt
open PySem PySem.Spec PyProof.Rows L2 PySem.W
section
variable {P : Program} {w : World} {K : PySem.W.Frag} {mg : Str → Option Value} {base : Heap} {f f1 f2 f3 f4 : Addr} {fd fd1 fd2 fd3 fd4 : FuncData} {nu : Nat → Str}
theorem rec_standing (F : FnP K "standing" s_standing f fd) (B : Bi mg) (g : mg "standing" = some (.ref f)) : ∀ n, Kept P w K mg base "standing" n ["tree"] (spStand K nu n) f fd
  | 0 => Kept.of F g (spD_never fun _ h => absurd h.1 (Nat.not_lt_zero _)) fun _ _ _ _ _ _ us hl => match us, hl with | [_], _ => rfl
  | n + 1 => Kept.of F g (ok_standing F B (rec_standing F B g n)) fun _ _ _ _ _ _ us hl => match us, hl with | [_], _ => rfl
theorem rec_below (F : FnP K "lots_below" s_lotsbelow f fd) (B : Bi mg) (g : mg "lots_below" = some (.ref f)) (K2 : Kept P w K mg base "names_in" 8 ["tree"] (spNamesIn K nu 7) f2 fd2) : ∀ n, n ≤ 7 → Kept P w K mg base "lots_below" (8 + n) ["tree"] (spBelow K nu n) f fd
  | 0, _ => Kept.of F g (spD_never fun _ h => absurd h.1 (Nat.not_lt_zero _)) fun _ _ _ _ _ _ us hl => match us, hl with | [_], _ => rfl
  | n + 1, h => Kept.of F g (ok_lotsbelow (m := 7) h (Nat.le_add_right 8 n) F B (rec_below F B g K2 n (Nat.le_of_succ_le h)) K2) fun _ _ _ _ _ _ us hl => match us, hl with | [_], _ => rfl
theorem rec_partto (N : Nu nu) (F : FnP K "part_to" s_partto f fd) (B : Bi mg) (g : mg "part_to" = some (.ref f)) (K2 : Kept P w K mg base "fork_of" 4 ["parts"] (spForkOf K nu) f2 fd2) : ∀ n, Kept P w K mg base "part_to" (4 + n) ["tree", "names"] (spPartTo K nu n) f fd
  | 0 => Kept.of F g (spD_never fun _ h => absurd h.1 (Nat.not_lt_zero _)) fun _ _ _ _ _ _ us hl => match us, hl with | [_, _], _ => rfl
  | n + 1 => Kept.of F g (ok_partto N (Nat.le_add_right 4 n) F B (rec_partto N F B g K2 n) K2) fun _ _ _ _ _ _ us hl => match us, hl with | [_, _], _ => rfl
theorem rec_Lto (N : Nu nu) (F : FnP K "_law_to" s_Lto f fd) (B : Bi mg) (g : mg "_law_to" = some (.ref f)) (K2 : Kept P w K mg base "_law_fork" 2 ["_law_parts"] (spForkOf K nu) f2 fd2) : ∀ n, Kept P w K mg base "_law_to" (20 + n) ["_law_tree_here", "_law_names_here"] (spToL K nu n) f fd
  | 0 => Kept.of F g (spD_never fun _ h => absurd h.1 (Nat.not_lt_zero _)) fun _ _ _ _ _ _ us hl => match us, hl with | [_, _], _ => rfl
  | n + 1 => Kept.of F g (ok_Lto N (show 2 ≤ 20 + n by omega) F B (rec_Lto N F B g K2 n) K2) fun _ _ _ _ _ _ us hl => match us, hl with | [_, _], _ => rfl
theorem rec_Lbeside (N : Nu nu) (F : FnP K "_law_beside" s_Lbeside f fd) (B : Bi mg) (g : mg "_law_beside" = some (.ref f)) (K2 : Kept P w K mg base "_law_fork" 2 ["_law_parts"] (spForkOf K nu) f2 fd2) : ∀ n, Kept P w K mg base "_law_beside" (20 + n) P_Lbeside (spBeside K nu n) f fd
  | 0 => Kept.of F g (spD_never fun _ h => absurd h.1 (Nat.not_lt_zero _)) fun _ _ _ _ _ _ us hl => match us, hl with | [_, _, _], _ => rfl
  | n + 1 => Kept.of F g (ok_Lbeside N (show 2 ≤ 20 + n by omega) F B (rec_Lbeside N F B g K2 n) K2) fun _ _ _ _ _ _ us hl => match us, hl with | [_, _, _], _ => rfl
theorem rec_Lhung (N : Nu nu) (F : FnP K "_law_hung" s_Lhung f fd) (B : Bi mg) (g : mg "_law_hung" = some (.ref f)) (K2 : Kept P w K mg base "_law_fork" 2 ["_law_parts"] (spForkOf K nu) f2 fd2) : ∀ n, Kept P w K mg base "_law_hung" (21 + n) P_Lhung (spHung K nu n) f fd
  | 0 => Kept.of F g (spD_never fun _ h => absurd h.1 (Nat.not_lt_zero _)) fun _ _ _ _ _ _ us hl => match us, hl with | [_, _, _], _ => rfl
  | n + 1 => Kept.of F g (ok_Lhung N (show 2 ≤ 21 + n by omega) F B (rec_Lhung N F B g K2 n) K2) fun _ _ _ _ _ _ us hl => match us, hl with | [_, _, _], _ => rfl
theorem rec_Lnamed {mu : Nat → Str} {sg : Str} {N0 : Nat} (nm : NmOk nu mu sg N0) (F : FnP K "_law_named" s_Lnamed f fd) (B : Bi mg) (g : mg "_law_named" = some (.ref f)) (K2 : Kept P w K mg base "_law_fork" 2 ["_law_parts"] (spForkOf K mu) f2 fd2) : ∀ n, Kept P w K mg base "_law_named" (21 + n) P_Lnamed (spNamed K nu mu sg N0 n) f fd
  | 0 => Kept.of F g (spD_never fun _ h => absurd h.1.1 (Nat.not_lt_zero _)) fun _ _ _ _ _ _ us hl => match us, hl with | [_, _], _ => rfl
  | n + 1 => Kept.of F g (ok_Lnamed nm.hmu ⟨nm.sg, nm.len⟩ (show 2 ≤ 21 + n by omega) F B (rec_Lnamed nm F B g K2 n) K2) fun _ _ _ _ _ _ us hl => match us, hl with | [_, _], _ => rfl
theorem named_all {k : Nat} (h : ∀ nu mu sg N0, NmOk nu mu sg N0 → Kept P w K mg base "_law_named" k P_Lnamed (spNamed K nu mu sg N0 7) f fd) (k1 : Binds K fd P_Lnamed []) (k2 : PySem.W.keepIn K (.ref f) = true) (k3 : mg "_law_named" = some (.ref f)) : Kept P w K mg base "_law_named" k P_Lnamed (spNamedA K) f fd :=
  ⟨⟨fun vs H Q E ⟨nu, mu, sg, N0, N, z⟩ => (h nu mu sg N0 N).ok.len vs H Q E z, fun A outer s H args us vs Q E r e b v ⟨nu, mu, sg, N0, N, z⟩ => (h nu mu sg N0 N).ok.run A outer s H args us vs Q E r e b v z⟩, k1, k2, k3⟩
theorem rec_look (N : Nu nu) (F : FnP K "looked_for" s_lookedfor f fd) (B : Bi mg) (g : mg "looked_for" = some (.ref f)) (K1 : Kept P w K mg base "longer_ones" 1 ["top", "others", "name", "most"] (spLonger K nu) f2 fd2) (K2 : Kept P w K mg base "share" 19 ["one", "other", "top", "others"] (spShare K nu) f3 fd3) (K3 : Kept P w K mg base "order_of" 19 ["one", "other", "others"] (spOrder K nu) f4 fd4) : ∀ n, KeptK P w K mg base "looked_for" (19 + n) 5 P_lookedfor "ringless" (spLook K nu n) f fd
  | 0 => KeptK.of F g (spD_never fun _ h => absurd h.nl (Nat.not_lt_zero _)) fun _ _ _ _ _ _ us ws hl hw => match us, ws, hl, hw with | [_, _, _, _, _], [_], _, _ => rfl
  | n + 1 => KeptK.of F g (ok_lookedfor N (show 1 ≤ 19 + n by omega) (show 19 ≤ 19 + n by omega) (show 19 ≤ 19 + n by omega) F B (rec_look N F B g K1 K2 K3 n) K1 K2 K3) fun _ _ _ _ _ _ us ws hl hw => match us, ws, hl, hw with | [_, _, _, _, _], [_], _, _ => rfl
end
theorem facts {P : Program} {w : World} {K : PySem.W.Frag} {h : Heap} {mg : Str → Option Value} {f : Addr} (X : K.In h) (G : h.Ns mainGlobals mg) (hfa : mg ("law" : Str) = some (.ref f)) (c : He.SaysD fa fn K) :
    ∃ fd : FuncData, (∀ (s : Shared) (v : Value), BindsTo s fd ⟨[v], []⟩ [("_law_script", v)]) ∧ ∀ base : Heap, K.In base → base.Ns mainGlobals mg → FnOk P w K mg base CX0 29 f fd ["_law_script"] (spLaw K) := by
  obtain ⟨x_isname, F0_isname⟩ := c.def_ 0 (d := d_isname) rfl
  have F_isname : FnP K "is_name" s_isname (He.ga K "is_name") x_isname := F0_isname
  obtain ⟨x_islot, F0_islot⟩ := c.def_ 1 (d := d_islot) rfl
  have F_islot : FnP K "is_lot" s_islot (He.ga K "is_lot") x_islot := F0_islot
  obtain ⟨x_firstname, F0_firstname⟩ := c.def_ 2 (d := d_firstname) rfl
  have F_firstname : FnP K "first_name" s_firstname (He.ga K "first_name") x_firstname := F0_firstname
  obtain ⟨x_standing, F0_standing⟩ := c.def_ 3 (d := d_standing) rfl
  have F_standing : FnP K "standing" s_standing (He.ga K "standing") x_standing := F0_standing
  obtain ⟨x_forkof, F0_forkof⟩ := c.def_ 4 (d := d_forkof) rfl
  have F_forkof : FnP K "fork_of" s_forkof (He.ga K "fork_of") x_forkof := F0_forkof
  obtain ⟨x_namesin, F0_namesin⟩ := c.def_ 5 (d := d_namesin) rfl
  have F_namesin : FnP K "names_in" s_namesin (He.ga K "names_in") x_namesin := F0_namesin
  obtain ⟨x_lotsbelow, F0_lotsbelow⟩ := c.def_ 6 (d := d_lotsbelow) rfl
  have F_lotsbelow : FnP K "lots_below" s_lotsbelow (He.ga K "lots_below") x_lotsbelow := F0_lotsbelow
  obtain ⟨x_lotsof, F0_lotsof⟩ := c.def_ 7 (d := d_lotsof) rfl
  have F_lotsof : FnP K "lots_of" s_lotsof (He.ga K "lots_of") x_lotsof := F0_lotsof
  obtain ⟨x_partto, F0_partto⟩ := c.def_ 8 (d := d_partto) rfl
  have F_partto : FnP K "part_to" s_partto (He.ga K "part_to") x_partto := F0_partto
  obtain ⟨x_treeto, F0_treeto⟩ := c.def_ 9 (d := d_treeto) rfl
  have F_treeto : FnP K "tree_to" s_treeto (He.ga K "tree_to") x_treeto := F0_treeto
  obtain ⟨x_nodesof, F0_nodesof⟩ := c.def_ 10 (d := d_nodesof) rfl
  have F_nodesof : FnP K "nodes_of" s_nodesof (He.ga K "nodes_of") x_nodesof := F0_nodesof
  obtain ⟨x_hasall, F0_hasall⟩ := c.def_ 11 (d := d_hasall) rfl
  have F_hasall : FnP K "has_all" s_hasall (He.ga K "has_all") x_hasall := F0_hasall
  obtain ⟨x_headof, F0_headof⟩ := c.def_ 12 (d := d_headof) rfl
  have F_headof : FnP K "head_of" s_headof (He.ga K "head_of") x_headof := F0_headof
  obtain ⟨x_wayof, F0_wayof⟩ := c.def_ 13 (d := d_wayof) rfl
  have F_wayof : FnK K "way_of" s_wayof [("is_top", .bl false)] (He.ga K "way_of") x_wayof := F0_wayof
  obtain ⟨x_areapart, F0_areapart⟩ := c.def_ 14 (d := d_areapart) rfl
  have F_areapart : FnP K "are_apart" s_areapart (He.ga K "are_apart") x_areapart := F0_areapart
  obtain ⟨x_areparts, F0_areparts⟩ := c.def_ 15 (d := d_areparts) rfl
  have F_areparts : FnP K "are_parts" s_areparts (He.ga K "are_parts") x_areparts := F0_areparts
  obtain ⟨x_share, F0_share⟩ := c.def_ 16 (d := d_share) rfl
  have F_share : FnP K "share" s_share (He.ga K "share") x_share := F0_share
  obtain ⟨x_headsin, F0_headsin⟩ := c.def_ 17 (d := d_headsin) rfl
  have F_headsin : FnP K "heads_in" s_headsin (He.ga K "heads_in") x_headsin := F0_headsin
  obtain ⟨x_isabove, F0_isabove⟩ := c.def_ 18 (d := d_isabove) rfl
  have F_isabove : FnP K "is_above" s_isabove (He.ga K "is_above") x_isabove := F0_isabove
  obtain ⟨x_orderof, F0_orderof⟩ := c.def_ 19 (d := d_orderof) rfl
  have F_orderof : FnP K "order_of" s_orderof (He.ga K "order_of") x_orderof := F0_orderof
  obtain ⟨x_letsforest, F0_letsforest⟩ := c.def_ 20 (d := d_letsforest) rfl
  have F_letsforest : FnK K "lets_forest" s_letsforest [("ringless", .bl false)] (He.ga K "lets_forest") x_letsforest := F0_letsforest
  obtain ⟨x_longerones, F0_longerones⟩ := c.def_ 21 (d := d_longerones) rfl
  have F_longerones : FnP K "longer_ones" s_longerones (He.ga K "longer_ones") x_longerones := F0_longerones
  obtain ⟨x_lookedfor, F0_lookedfor⟩ := c.def_ 22 (d := d_lookedfor) rfl
  have F_lookedfor : FnP K "looked_for" s_lookedfor (He.ga K "looked_for") x_lookedfor := F0_lookedfor
  obtain ⟨x_fewestforest, F0_fewestforest⟩ := c.def_ 23 (d := d_fewestforest) rfl
  have F_fewestforest : FnK K "fewest_forest" s_fewestforest [("ringless", .bl false)] (He.ga K "fewest_forest") x_fewestforest := F0_fewestforest
  obtain ⟨x_Lpen, F0_Lpen⟩ := c.def_ 24 (d := d_Lpen) rfl
  have F_Lpen : FnP K "_law_pen" s_Lpen (He.ga K "_law_pen") x_Lpen := F0_Lpen
  obtain ⟨x_Ldraw, F0_Ldraw⟩ := c.def_ 25 (d := d_Ldraw) rfl
  have F_Ldraw : FnP K "_law_draw" s_Ldraw (He.ga K "_law_draw") x_Ldraw := F0_Ldraw
  obtain ⟨x_Lnames, F0_Lnames⟩ := c.def_ 26 (d := d_Lnames) rfl
  have F_Lnames : FnP K "_law_names" s_Lnames (He.ga K "_law_names") x_Lnames := F0_Lnames
  obtain ⟨x_Lleast, F0_Lleast⟩ := c.def_ 27 (d := d_Lleast) rfl
  have F_Lleast : FnP K "_law_least" s_Lleast (He.ga K "_law_least") x_Lleast := F0_Lleast
  obtain ⟨x_Lfork, F0_Lfork⟩ := c.def_ 28 (d := d_Lfork) rfl
  have F_Lfork : FnP K "_law_fork" s_Lfork (He.ga K "_law_fork") x_Lfork := F0_Lfork
  obtain ⟨x_Ltree, F0_Ltree⟩ := c.def_ 29 (d := d_Ltree) rfl
  have F_Ltree : FnP K "_law_tree" s_Ltree (He.ga K "_law_tree") x_Ltree := F0_Ltree
  obtain ⟨x_Lbelow, F0_Lbelow⟩ := c.def_ 30 (d := d_Lbelow) rfl
  have F_Lbelow : FnP K "_law_below" s_Lbelow (He.ga K "_law_below") x_Lbelow := F0_Lbelow
  obtain ⟨x_Lto, F0_Lto⟩ := c.def_ 31 (d := d_Lto) rfl
  have F_Lto : FnP K "_law_to" s_Lto (He.ga K "_law_to") x_Lto := F0_Lto
  obtain ⟨x_Llots, F0_Llots⟩ := c.def_ 32 (d := d_Llots) rfl
  have F_Llots : FnP K "_law_lots" s_Llots (He.ga K "_law_lots") x_Llots := F0_Llots
  obtain ⟨x_Ltwo, F0_Ltwo⟩ := c.def_ 33 (d := d_Ltwo) rfl
  have F_Ltwo : FnP K "_law_two" s_Ltwo (He.ga K "_law_two") x_Ltwo := F0_Ltwo
  obtain ⟨x_Lbeside, F0_Lbeside⟩ := c.def_ 34 (d := d_Lbeside) rfl
  have F_Lbeside : FnP K "_law_beside" s_Lbeside (He.ga K "_law_beside") x_Lbeside := F0_Lbeside
  obtain ⟨x_Lmany, F0_Lmany⟩ := c.def_ 35 (d := d_Lmany) rfl
  have F_Lmany : FnP K "_law_many" s_Lmany (He.ga K "_law_many") x_Lmany := F0_Lmany
  obtain ⟨x_Lnamed, F0_Lnamed⟩ := c.def_ 36 (d := d_Lnamed) rfl
  have F_Lnamed : FnP K "_law_named" s_Lnamed (He.ga K "_law_named") x_Lnamed := F0_Lnamed
  obtain ⟨x_Lelsewhere, F0_Lelsewhere⟩ := c.def_ 37 (d := d_Lelsewhere) rfl
  have F_Lelsewhere : FnP K "_law_elsewhere" s_Lelsewhere (He.ga K "_law_elsewhere") x_Lelsewhere := F0_Lelsewhere
  obtain ⟨x_Lhung, F0_Lhung⟩ := c.def_ 38 (d := d_Lhung) rfl
  have F_Lhung : FnP K "_law_hung" s_Lhung (He.ga K "_law_hung") x_Lhung := F0_Lhung
  obtain ⟨x_law, F0_law⟩ := c.def_ 39 (d := d_law) rfl
  have F_law : FnP K "law" s_law (He.ga K "law") x_law := F0_law
  have g_isname := He.glo_ok X G (c.fact 0 (f := .glo "is_name") rfl)
  have g_islot := He.glo_ok X G (c.fact 1 (f := .glo "is_lot") rfl)
  have g_firstname := He.glo_ok X G (c.fact 2 (f := .glo "first_name") rfl)
  have g_standing := He.glo_ok X G (c.fact 3 (f := .glo "standing") rfl)
  have g_forkof := He.glo_ok X G (c.fact 4 (f := .glo "fork_of") rfl)
  have g_namesin := He.glo_ok X G (c.fact 5 (f := .glo "names_in") rfl)
  have g_lotsbelow := He.glo_ok X G (c.fact 6 (f := .glo "lots_below") rfl)
  have g_lotsof := He.glo_ok X G (c.fact 7 (f := .glo "lots_of") rfl)
  have g_partto := He.glo_ok X G (c.fact 8 (f := .glo "part_to") rfl)
  have g_treeto := He.glo_ok X G (c.fact 9 (f := .glo "tree_to") rfl)
  have g_nodesof := He.glo_ok X G (c.fact 10 (f := .glo "nodes_of") rfl)
  have g_hasall := He.glo_ok X G (c.fact 11 (f := .glo "has_all") rfl)
  have g_headof := He.glo_ok X G (c.fact 12 (f := .glo "head_of") rfl)
  have g_wayof := He.glo_ok X G (c.fact 13 (f := .glo "way_of") rfl)
  have g_areapart := He.glo_ok X G (c.fact 14 (f := .glo "are_apart") rfl)
  have g_areparts := He.glo_ok X G (c.fact 15 (f := .glo "are_parts") rfl)
  have g_share := He.glo_ok X G (c.fact 16 (f := .glo "share") rfl)
  have g_headsin := He.glo_ok X G (c.fact 17 (f := .glo "heads_in") rfl)
  have g_isabove := He.glo_ok X G (c.fact 18 (f := .glo "is_above") rfl)
  have g_orderof := He.glo_ok X G (c.fact 19 (f := .glo "order_of") rfl)
  have g_letsforest := He.glo_ok X G (c.fact 20 (f := .glo "lets_forest") rfl)
  have g_longerones := He.glo_ok X G (c.fact 21 (f := .glo "longer_ones") rfl)
  have g_lookedfor := He.glo_ok X G (c.fact 22 (f := .glo "looked_for") rfl)
  have g_fewestforest := He.glo_ok X G (c.fact 23 (f := .glo "fewest_forest") rfl)
  have g_Lpen := He.glo_ok X G (c.fact 24 (f := .glo "_law_pen") rfl)
  have g_Ldraw := He.glo_ok X G (c.fact 25 (f := .glo "_law_draw") rfl)
  have g_Lnames := He.glo_ok X G (c.fact 26 (f := .glo "_law_names") rfl)
  have g_Lleast := He.glo_ok X G (c.fact 27 (f := .glo "_law_least") rfl)
  have g_Lfork := He.glo_ok X G (c.fact 28 (f := .glo "_law_fork") rfl)
  have g_Ltree := He.glo_ok X G (c.fact 29 (f := .glo "_law_tree") rfl)
  have g_Lbelow := He.glo_ok X G (c.fact 30 (f := .glo "_law_below") rfl)
  have g_Lto := He.glo_ok X G (c.fact 31 (f := .glo "_law_to") rfl)
  have g_Llots := He.glo_ok X G (c.fact 32 (f := .glo "_law_lots") rfl)
  have g_Ltwo := He.glo_ok X G (c.fact 33 (f := .glo "_law_two") rfl)
  have g_Lbeside := He.glo_ok X G (c.fact 34 (f := .glo "_law_beside") rfl)
  have g_Lmany := He.glo_ok X G (c.fact 35 (f := .glo "_law_many") rfl)
  have g_Lnamed := He.glo_ok X G (c.fact 36 (f := .glo "_law_named") rfl)
  have g_Lelsewhere := He.glo_ok X G (c.fact 37 (f := .glo "_law_elsewhere") rfl)
  have g_Lhung := He.glo_ok X G (c.fact 38 (f := .glo "_law_hung") rfl)
  have g_law := He.glo_ok X G (c.fact 39 (f := .glo "law") rfl)
  have B : Bi mg := ⟨He.free_ok X G (c.fact 40 (f := .free "isinstance") rfl), He.free_ok X G (c.fact 41 (f := .free "str") rfl), He.free_ok X G (c.fact 42 (f := .free "tuple") rfl), He.free_ok X G (c.fact 43 (f := .free "list") rfl), He.free_ok X G (c.fact 44 (f := .free "len") rfl), He.free_ok X G (c.fact 45 (f := .free "all") rfl), He.free_ok X G (c.fact 46 (f := .free "any") rfl), He.free_ok X G (c.fact 47 (f := .free "sorted") rfl), He.free_ok X G (c.fact 48 (f := .free "min") rfl), He.free_ok X G (c.fact 49 (f := .free "set") rfl), He.free_ok X G (c.fact 50 (f := .free "range") rfl), He.free_ok X G (c.fact 51 (f := .free "enumerate") rfl), He.free_ok X G (c.fact 52 (f := .free "abs") rfl), He.free_ok X G (c.fact 53 (f := .free "int") rfl), He.str_ok X G (c.fact 54 (f := .str "LETTERS" "abcdefghijklmnopqrstuvwxyz") rfl), He.int_ok X G (c.fact 55 (f := .int "LONGEST" 8) rfl)⟩
  have e := hfa.symm.trans g_law
  cases e
  have b := FunD.bindsA (ps := ["_law_script"]) F_law fun _ _ _ _ _ _ us hl => match us, hl with | [_], _ => rfl
  refine ⟨x_law, fun s v => b s [v] rfl, fun base _ _ => ?_⟩
  have k_isname : Kept P w K mg base "is_name" 1 ["thing"] (spIsName K) _ x_isname := Kept.of F_isname g_isname (ok_isname F_isname B) fun _ _ _ _ _ _ us hl => match us, hl with | [_], _ => rfl
  have k_islot : ∀ nu, Nu nu → Kept P w K mg base "is_lot" 2 ["thing"] (spIsLot K nu) _ x_islot := fun nu N => Kept.of F_islot g_islot (ok_islot N F_islot B k_isname) fun _ _ _ _ _ _ us hl => match us, hl with | [_], _ => rfl
  have k_firstname : ∀ nu, Nu nu → Kept P w K mg base "first_name" 1 ["tree"] (spFirst K nu) _ x_firstname := fun nu N => Kept.of F_firstname g_firstname (ok_firstname F_firstname B) fun _ _ _ _ _ _ us hl => match us, hl with | [_], _ => rfl
  have k_standing : ∀ nu, Nu nu → Kept P w K mg base "standing" 7 ["tree"] (spStand K nu 7) _ x_standing := fun nu N => rec_standing F_standing B g_standing 7
  have k_forkof : ∀ nu, Nu nu → Kept P w K mg base "fork_of" 4 ["parts"] (spForkOf K nu) _ x_forkof := fun nu N => Kept.of F_forkof g_forkof (ok_forkof N F_forkof B (k_firstname nu N)) fun _ _ _ _ _ _ us hl => match us, hl with | [_], _ => rfl
  have k_namesin : ∀ nu, Nu nu → Kept P w K mg base "names_in" 8 ["tree"] (spNamesIn K nu 7) _ x_namesin := fun nu N => Kept.of F_namesin g_namesin (ok_namesin N F_namesin B (k_standing nu N)) fun _ _ _ _ _ _ us hl => match us, hl with | [_], _ => rfl
  have k_lotsbelow : ∀ nu, Nu nu → Kept P w K mg base "lots_below" 15 ["tree"] (spBelow K nu 7) _ x_lotsbelow := fun nu N => rec_below F_lotsbelow B g_lotsbelow (k_namesin nu N) 7 (Nat.le_refl _)
  have k_lotsof : ∀ nu, Nu nu → Kept P w K mg base "lots_of" 16 ["tree"] (spLotsOf K nu 7) _ x_lotsof := fun nu N => Kept.of F_lotsof g_lotsof (ok_lotsof N F_lotsof B (k_lotsbelow nu N)) fun _ _ _ _ _ _ us hl => match us, hl with | [_], _ => rfl
  have k_nodesof : ∀ nu, Nu nu → Kept P w K mg base "nodes_of" 17 ["tree"] (spNodesOf K nu 7) _ x_nodesof := fun nu N => Kept.of F_nodesof g_nodesof (ok_nodesof (by decide) F_nodesof B (k_lotsof nu N) (k_namesin nu N)) fun _ _ _ _ _ _ us hl => match us, hl with | [_], _ => rfl
  have k_hasall : ∀ nu, Nu nu → Kept P w K mg base "has_all" 1 ["lot", "names"] (spHasAll K nu) _ x_hasall := fun nu N => Kept.of F_hasall g_hasall (ok_hasall N F_hasall B) fun _ _ _ _ _ _ us hl => match us, hl with | [_, _], _ => rfl
  have k_headof : ∀ nu, Nu nu → Kept P w K mg base "head_of" 2 ["nodes", "lot"] (spHeadOf K nu) _ x_headof := fun nu N => Kept.of F_headof g_headof (ok_headof F_headof B (k_hasall nu N)) fun _ _ _ _ _ _ us hl => match us, hl with | [_, _], _ => rfl
  have k_partto : ∀ nu, Nu nu → Kept P w K mg base "part_to" 11 ["tree", "names"] (spPartTo K nu 7) _ x_partto := fun nu N => rec_partto N F_partto B g_partto (k_forkof nu N) 7
  have k_treeto : ∀ nu, Nu nu → Kept P w K mg base "tree_to" 12 ["tree", "names"] (spTreeTo K nu 7) _ x_treeto := fun nu N => Kept.of F_treeto g_treeto (ok_treeto F_treeto (k_partto nu N)) fun _ _ _ _ _ _ us hl => match us, hl with | [_, _], _ => rfl
  have k_wayof : ∀ nu, Nu nu → KeptK P w K mg base "way_of" 3 2 ["nodes", "lot", "is_top"] "is_top" (spWayOf K nu) _ x_wayof := fun nu N => KeptK.of F_wayof g_wayof (ok_wayof N F_wayof B (k_headof nu N)) fun _ _ _ _ _ _ us ws hl hw => match us, ws, hl, hw with | [_, _], [_], _, _ => rfl
  obtain ⟨ds, hds, b2⟩ := FunD.binds0 (ps := ["nodes", "lot", "is_top"]) F_wayof 2 (by decide) rfl fun D doc pm an cdv ct us ks hl hk => match us, ks, hl, hk with | [_, _], [_], _, _ => ⟨_, _, _, _, _, _, rfl, rfl, rfl⟩
  have k_areapart : ∀ nu, Nu nu → Kept P w K mg base "are_apart" 18 ["tree", "top", "others"] (spApart K nu) _ x_areapart := fun nu N => Kept.of F_areapart g_areapart (ok_areapart N (by decide) F_areapart B (k_nodesof nu N) (k_wayof nu N) hds b2) fun _ _ _ _ _ _ us hl => match us, hl with | [_, _, _], _ => rfl
  have k_share : ∀ nu, Nu nu → Kept P w K mg base "share" 19 ["one", "other", "top", "others"] (spShare K nu) _ x_share := fun nu N => Kept.of F_share g_share (ok_share N (by decide) F_share B (k_areapart nu N) (k_treeto nu N)) fun _ _ _ _ _ _ us hl => match us, hl with | [_, _, _, _], _ => rfl
  have k_headsin : ∀ nu, Nu nu → Kept P w K mg base "heads_in" 18 ["tree", "others"] (spHeads K nu) _ x_headsin := fun nu N => Kept.of F_headsin g_headsin (ok_headsin N (by decide) F_headsin B (k_nodesof nu N) (k_headof nu N)) fun _ _ _ _ _ _ us hl => match us, hl with | [_, _], _ => rfl
  have k_isabove : ∀ nu, Nu nu → Kept P w K mg base "is_above" 2 ["heads", "lot", "mate"] (spAbove K nu) _ x_isabove := fun nu N => Kept.of F_isabove g_isabove (ok_isabove N F_isabove B (k_hasall nu N)) fun _ _ _ _ _ _ us hl => match us, hl with | [_, _, _], _ => rfl
  have k_orderof : ∀ nu, Nu nu → Kept P w K mg base "order_of" 19 ["one", "other", "others"] (spOrder K nu) _ x_orderof := fun nu N => Kept.of F_orderof g_orderof (ok_orderof N (by decide) F_orderof B (k_headsin nu N) (k_isabove nu N)) fun _ _ _ _ _ _ us hl => match us, hl with | [_, _, _], _ => rfl
  have k_areparts : ∀ nu, Nu nu → Kept P w K mg base "are_parts" 3 ["thing", "names"] (spParts K nu) _ x_areparts := fun nu N => Kept.of F_areparts g_areparts (ok_areparts N F_areparts B (k_islot nu N)) fun _ _ _ _ _ _ us hl => match us, hl with | [_, _], _ => rfl
  have k_letsforest : ∀ nu, Nu nu → KeptK P w K mg base "lets_forest" 20 3 ["one", "other", "thing", "ringless"] "ringless" (spLets K nu) _ x_letsforest := fun nu N => KeptK.of F_letsforest g_letsforest (ok_letsforest N (by decide) (by decide) (by decide) F_letsforest B (k_areparts nu N) (k_namesin nu N) (k_share nu N) (k_orderof nu N)) fun _ _ _ _ _ _ us ws hl hw => match us, ws, hl, hw with | [_, _, _], [_], _, _ => rfl
  have k_longerones : ∀ nu, Nu nu → Kept P w K mg base "longer_ones" 1 ["top", "others", "name", "most"] (spLonger K nu) _ x_longerones := fun nu N => Kept.of F_longerones g_longerones (ok_longerones F_longerones B) fun _ _ _ _ _ _ us hl => match us, hl with | [_, _, _, _], _ => rfl
  have k_lookedfor : ∀ nu, Nu nu → KeptK P w K mg base "looked_for" 26 5 P_lookedfor "ringless" (spLook K nu 7) _ x_lookedfor := fun nu N => rec_look N F_lookedfor B g_lookedfor (k_longerones nu N) (k_share nu N) (k_orderof nu N) 7
  have k_fewest : ∀ nu, Nu nu → KeptK P w K mg base "fewest_forest" 27 2 ["one", "other", "ringless"] "ringless" (spFewest K nu) _ x_fewestforest := fun nu N => KeptK.of F_fewestforest g_fewestforest (ok_fewest (by decide) F_fewestforest B (k_lookedfor nu N) (k_namesin nu N)) fun _ _ _ _ _ _ us ws hl hw => match us, ws, hl, hw with | [_, _], [_], _, _ => rfl
  have k_Lpen : Kept P w K mg base "_law_pen" 1 ["_law_script"] (spPen K) _ x_Lpen := Kept.of F_Lpen g_Lpen (ok_Lpen F_Lpen B) fun _ _ _ _ _ _ us hl => match us, hl with | [_], _ => rfl
  have k_Ldraw : Kept P w K mg base "_law_draw" 1 P_Lnames (spDraw) _ x_Ldraw := Kept.of F_Ldraw g_Ldraw (ok_Ldraw F_Ldraw B) fun _ _ _ _ _ _ us hl => match us, hl with | [_, _], _ => rfl
  have k_Lleast : ∀ nu, Nu nu → Kept P w K mg base "_law_least" 1 ["_law_tree_here"] (spFirst K nu) _ x_Lleast := fun nu N => Kept.of F_Lleast g_Lleast (ok_Lleast F_Lleast B) fun _ _ _ _ _ _ us hl => match us, hl with | [_], _ => rfl
  have k_Lfork : ∀ nu, Nu nu → Kept P w K mg base "_law_fork" 2 ["_law_parts"] (spForkOf K nu) _ x_Lfork := fun nu N => Kept.of F_Lfork g_Lfork (ok_Lfork N F_Lfork B (k_Lleast nu N)) fun _ _ _ _ _ _ us hl => match us, hl with | [_], _ => rfl
  have k_Lbelow : ∀ nu, Nu nu → Kept P w K mg base "_law_below" 1 ["_law_tree_here"] (spBelowL K nu) _ x_Lbelow := fun nu N => Kept.of F_Lbelow g_Lbelow (ok_Lbelow N F_Lbelow B) fun _ _ _ _ _ _ us hl => match us, hl with | [_], _ => rfl
  have k_Lnames : Kept P w K mg base "_law_names" 2 P_Lnames (spNamesL) _ x_Lnames := Kept.of F_Lnames g_Lnames (ok_Lnames F_Lnames B k_Ldraw) fun _ _ _ _ _ _ us hl => match us, hl with | [_, _], _ => rfl
  have k_Ltree : ∀ nu, Nu nu → Kept P w K mg base "_law_tree" 3 P_Ltree (spTreeL K nu) _ x_Ltree := fun nu N => Kept.of F_Ltree g_Ltree (ok_Ltree N F_Ltree B k_Ldraw (k_Lfork nu N)) fun _ _ _ _ _ _ us hl => match us, hl with | [_, _, _], _ => rfl
  have k_Lto : ∀ nu, Nu nu → Kept P w K mg base "_law_to" 27 ["_law_tree_here", "_law_names_here"] (spToL K nu 7) _ x_Lto := fun nu N => rec_Lto N F_Lto B g_Lto (k_Lfork nu N) 7
  have k_Lbeside : ∀ nu, Nu nu → Kept P w K mg base "_law_beside" 27 P_Lbeside (spBeside K nu 7) _ x_Lbeside := fun nu N => rec_Lbeside N F_Lbeside B g_Lbeside (k_Lfork nu N) 7
  have k_Lhung : ∀ nu, Nu nu → Kept P w K mg base "_law_hung" 28 P_Lhung (spHung K nu 7) _ x_Lhung := fun nu N => rec_Lhung N F_Lhung B g_Lhung (k_Lfork nu N) 7
  have k_Lnamed : Kept P w K mg base "_law_named" 28 P_Lnamed (spNamedA K) _ x_Lnamed := named_all (fun nu mu sg N0 nm => rec_Lnamed nm F_Lnamed B g_Lnamed (k_Lfork mu nm.mono) 7) (F_Lnamed.bindsN fun _ _ _ _ _ _ us hl => match us, hl with | [_, _], _ => rfl) F_Lnamed.kp g_Lnamed
  have k_Lmany : ∀ nu, Nu nu → Kept P w K mg base "_law_many" 28 P_Lmany (spMany K nu) _ x_Lmany := fun nu N => Kept.of F_Lmany g_Lmany (ok_Lmany (by decide) F_Lmany B (k_fewest nu N) (k_letsforest nu N)) fun _ _ _ _ _ _ us hl => match us, hl with | [_, _, _], _ => rfl
  obtain ⟨nu0, N0⟩ : ∃ nu, Nu nu := ⟨_, nuE_nu (l := []) (by decide) (by decide)⟩
  have k_Ltwo : Kept P w K mg base "_law_two" 28 P_Lnames (spTwo K) _ x_Ltwo := Kept.of F_Ltwo g_Ltwo (ok_Ltwo (by decide) F_Ltwo B k_Ldraw k_Lnames (Kept.any k_Ltree nu0 N0) (Kept.any k_Lto nu0 N0) (Kept.any k_Lbeside nu0 N0)) fun _ _ _ _ _ _ us hl => match us, hl with | [_, _], _ => rfl
  have k_Lelse : ∀ nu, Nu nu → Kept P w K mg base "_law_elsewhere" 28 P_Lelse (spElse K nu) _ x_Lelsewhere := fun nu N => Kept.of F_Lelsewhere g_Lelsewhere (ok_Lelse N (by decide) F_Lelsewhere B k_Ldraw (k_Lto nu N) (k_Lbeside nu N)) fun _ _ _ _ _ _ us hl => match us, hl with | [_, _, _], _ => rfl
  exact ok_law (by decide) F_law B k_Lpen k_Ldraw k_Ltwo k_Lnamed (Kept.any k_Lfork nu0 N0) (Kept.any k_Lbelow nu0 N0) (Kept.any k_Lhung nu0 N0) (Kept.any k_Lmany nu0 N0) (Kept.any k_Lelse nu0 N0)
end Jt
open PySem PySem.W PySem.Calls PyProof.Rows
theorem PySem.Challenge.cw_joinedtrees_k40_whole_forests_side_by_si_holds : PySem.Challenge.rw_joinedtrees_k40_whole_forests_side_by_si.Holds := by
  w_on; o_law
  refine HandSHeadRun.head_any (r := OpenLaw.row PySem.Challenge.rw_joinedtrees_k40_whole_forests_side_by_si) (q := view (OpenLaw.row PySem.Challenge.rw_joinedtrees_k40_whole_forests_side_by_si).prog [45]) (H := Jt.hk) (ob := Jt.ob) (M := 2000) (loose := Jt.loose) (d := HandSHeadRun.topDef (OpenLaw.row PySem.Challenge.rw_joinedtrees_k40_whole_forests_side_by_si).prog 45) (kwd := []) Jt.ob_eq
    (by kernel_rfl) (fun s => by kernel_rfl) Jt.run (by kernel_rfl) (by kernel_rfl) (by kernel_rfl) (by rfl) (by first | assumption | decide +kernel) (by decide +kernel) ⟨rfl, rfl, rfl, rfl, rfl, by decide +kernel⟩ ?hw ?hc
  case hw => w_witness2
  case hc =>
    refine L2.walk_ofE (l := PySem.Challenge.rw_joinedtrees_k40_whole_forests_side_by_si) (n := 63) (k := 29) (x := "_law_script") (CX := L2.CX0) rfl (by decide) (by kernel_rfl) ⟨rfl, by decide, by decide⟩ ?F (fun _ _ _ _ z => z)
    intro w mg fa h Y G hmg0
    obtain ⟨K, KX, c⟩ := Y
    have hmg : mg ("law" : PySem.Str) = some (.ref fa) := by
      have e : (HandSHeadRun.topDef (OpenLaw.row PySem.Challenge.rw_joinedtrees_k40_whole_forests_side_by_si).prog 45).name = ("law" : PySem.Str) := by kernel_rfl
      rw [← e]
      exact hmg0
    obtain ⟨fd, hb, hF⟩ := Jt.facts (P := (PySem.Challenge.rw_joinedtrees_k40_whole_forests_side_by_si).prog) (w := w) KX G hmg c
    exact ⟨K, fd, Jt.spLaw K, KX, hb, fun H a ns hl _ hS => ⟨a, ns, rfl, hS, fun _ => rfl⟩, hF⟩
