import PyProof.Rows.All
import Wide.All
import OpenK.AllK
import Wide.FinOn
import HandS.ForMost
import HandS.ForExc
import HandS.CallSlots
import HandS.Deep
import HandS.TupAny
import HandS.TupMul
import HandS.TupLe
import HandS.Wide
import HandS.SortInts
import HandS.SortRule
import HandS.Conv
import HandS.IsInst
import HandS.Style
import HandS.SortOrd
import HandS.More
import HandS.HeadHook2
import HandS.EndBits
import HandS.HeadEnd
import HandS.HeadHook1
import HandS.Head0
import HandS.Head1
import HandS.Head2
import HandS.ExcOwn
import HandS.Iter
import HandS.Zip
import HandS.Rev
import KE.GoesEnum
import PyProof.Rows.SortShellAny
import PyProof.ReprRoads
import HandS.ExcIs
import HandS.ExcValue
import KE.KIndexOf
import PySem.Challenge.RW_hueshare_k18_whole_folds_of_webs_made
set_option Elab.async false
set_option linter.all false
set_option maxRecDepth 100000
set_option maxHeartbeats 4000000
set_option exponentiation.threshold 100000
namespace Hs
open PySem PySem.Spec PyProof.Rows L2
/-- how a def is looked at by names -/
abbrev dOf (x : Str) (st : Stmt) : He.DefD := ⟨(x, none), x, x, defArgs st, defBody st, defScope st, [], []⟩
def excB (K : PySem.W.Frag) (D : Addr) : Bool :=
  decide (PySem.W.findIn K (.ref D) "__getattribute__" = some (some (.builtin "BaseException.__getattribute__"))) && (decide (PySem.W.findIn K (.ref D) "__getattr__" = some none) && (decide (PySem.W.subIn K (.ref D) (.type "BaseException") = some true) && (PySem.W.hasDictIn K D &&
    (decide (PySem.W.findIn K (.ref D) "__class__" = some (some (.builtin "object.__class__"))) && (decide (PySem.W.specialIn K (.builtin "object.__class__") "__get__" = some (some (.builtin "getset_descriptor.__get__"))) && (decide (PySem.W.takesIn K (.builtin "object.__class__") = some true) &&
      decide (PySem.W.mroIn K D (.type "object") = some true)))))))
/-- what isinstance says of the errors of the classes named, asked for an own class, for a built-in one -/
inductive ExQ where
  | own (y : Str) (tb : List (Str × Bool))
  | ty (T : String) (tb : List (Str × Bool))
def ExQ.row (K : PySem.W.Frag) (cv : Value) (tb : List (Str × Bool)) : Bool := tb.all fun p => excB K (He.ga K p.1) && decide (PySem.W.kitOne K (.ref (He.ga K p.1)) cv = some p.2)
def ExQ.ok (K : PySem.W.Frag) : ExQ → Bool
  | .own y tb => ExQ.row K (.ref (He.ga K y)) tb
  | .ty T tb => ExQ.row K (.type T) tb
end Hs
namespace Lk18
open PySem PySem.Spec PyProof.Rows L2 Hs
def topS (i : Nat) : Stmt := PySem.Challenge.pw_hueshare_k18_whole_folds_of_webs_made.main.body.getD i (.Pass ⟨0, 0, 0, 0⟩)
abbrev s__law_b_stirred : Stmt := topS 61
abbrev s__law_b_digit : Stmt := topS 62
abbrev s__law_b_pairs : Stmt := topS 63
abbrev s__law_b_web : Stmt := topS 64
abbrev s_is_whole : Stmt := topS 8
abbrev s_is_below : Stmt := topS 9
abbrev s_is_rising : Stmt := topS 11
abbrev s_is_tie : Stmt := topS 10
abbrev s_are_ties : Stmt := topS 12
abbrev s_is_web : Stmt := topS 13
abbrev s_need_web : Stmt := topS 14
abbrev s_all_places : Stmt := topS 18
abbrev s_rows_of : Stmt := topS 22
abbrev s_all_tied : Stmt := topS 35
abbrev s_nears_among : Stmt := topS 34
abbrev s_foldable : Stmt := topS 36
abbrev s_folded : Stmt := topS 37
abbrev s_walked_back : Stmt := topS 38
abbrev s_shortest_walk : Stmt := topS 39
abbrev s_ring_at : Stmt := topS 40
abbrev s_ring_among : Stmt := topS 41
abbrev s_fold_in : Stmt := topS 42
abbrev s_fold : Stmt := topS 43
abbrev s_is_set : Stmt := topS 16
abbrev s_need_set : Stmt := topS 17
abbrev s_pairs_of : Stmt := topS 25
abbrev s_web_of : Stmt := topS 23
abbrev s_tied_in : Stmt := topS 19
abbrev s_cut_in : Stmt := topS 58
abbrev s_cut_down : Stmt := topS 59
abbrev s_is_order : Stmt := topS 44
abbrev s_is_crowd_in : Stmt := topS 26
abbrev s_behind_in : Stmt := topS 45
abbrev s_is_fold : Stmt := topS 46
abbrev s_is_tied_as_ring : Stmt := topS 47
abbrev s_is_bare_ring : Stmt := topS 48
abbrev s_least_unlike : Stmt := topS 49
abbrev s_hues_behind : Stmt := topS 50
abbrev s_greatest_of_fold : Stmt := topS 51
abbrev s_by_fold : Stmt := topS 52
abbrev s_first_greatest : Stmt := topS 30
abbrev s_full_from : Stmt := topS 28
abbrev s_full_crowds_in : Stmt := topS 29
abbrev s_greatest_crowd_in : Stmt := topS 31
abbrev s_greatest_crowd : Stmt := topS 32
abbrev s_need_place : Stmt := topS 15
abbrev s_neighbours_in : Stmt := topS 20
abbrev s_neighbours : Stmt := topS 21
abbrev s__law_b_folds : Stmt := topS 65
abbrev s__law_b_cut_right : Stmt := topS 68
abbrev s_need_two : Stmt := topS 55
abbrev s_need_room : Stmt := topS 54
abbrev s_moved : Stmt := topS 56
abbrev s_beside : Stmt := topS 57
abbrev s__law_b_called : Stmt := topS 66
abbrev s_is_crowd : Stmt := topS 27
abbrev s__law_b_with_one : Stmt := topS 67
abbrev s_law : Stmt := topS 69
def fa0 : List He.Fa := [.glo "_law_b_stirred", .glo "_law_b_digit", .glo "_law_b_pairs", .glo "_law_b_web", .glo "is_whole", .glo "is_below", .glo "is_rising", .glo "is_tie", .glo "are_ties", .glo "is_web", .glo "need_web", .glo "all_places", .glo "rows_of", .glo "all_tied", .glo "nears_among", .glo "foldable", .glo "folded", .glo "walked_back", .glo "shortest_walk", .glo "ring_at", .glo "ring_among", .glo "fold_in", .glo "fold", .glo "is_set", .glo "need_set", .glo "pairs_of", .glo "web_of", .glo "tied_in", .glo "cut_in", .glo "cut_down"]
def fa1 : List He.Fa := [.glo "is_order", .glo "is_crowd_in", .glo "behind_in", .glo "is_fold", .glo "is_tied_as_ring", .glo "is_bare_ring", .glo "least_unlike", .glo "hues_behind", .glo "greatest_of_fold", .glo "by_fold", .glo "first_greatest", .glo "full_from", .glo "full_crowds_in", .glo "greatest_crowd_in", .glo "greatest_crowd", .glo "need_place", .glo "neighbours_in", .glo "neighbours", .glo "_law_b_folds", .glo "_law_b_cut_right", .glo "need_two", .glo "need_room", .glo "moved", .glo "beside", .glo "_law_b_called", .glo "is_crowd", .glo "_law_b_with_one", .glo "law", .glo "NoWeb", .exc "NoWeb"]
def fa2 : List He.Fa := [.glo "NoPlace", .exc "NoPlace", .glo "NoFold", .exc "NoFold", .glo "TooMany", .exc "TooMany", .int "MOST_PLACES" 10, .free "len", .free "range", .free "int", .free "max", .free "min", .free "sorted", .free "tuple", .free "isinstance", .free "bool", .free "all", .free "enumerate", .free "list", .free "any"]
def fa : List He.Fa := fa0 ++ fa1 ++ fa2
def fn0 : List He.DefD := [dOf "_law_b_stirred" s__law_b_stirred, dOf "_law_b_digit" s__law_b_digit, dOf "_law_b_pairs" s__law_b_pairs, dOf "_law_b_web" s__law_b_web, dOf "is_whole" s_is_whole, dOf "is_below" s_is_below, dOf "is_rising" s_is_rising, dOf "is_tie" s_is_tie, dOf "are_ties" s_are_ties, dOf "is_web" s_is_web, dOf "need_web" s_need_web, dOf "all_places" s_all_places, dOf "rows_of" s_rows_of, dOf "all_tied" s_all_tied, dOf "nears_among" s_nears_among, dOf "foldable" s_foldable, dOf "folded" s_folded, dOf "walked_back" s_walked_back, dOf "shortest_walk" s_shortest_walk, dOf "ring_at" s_ring_at, dOf "ring_among" s_ring_among, dOf "fold_in" s_fold_in, dOf "fold" s_fold, dOf "is_set" s_is_set, dOf "need_set" s_need_set, dOf "pairs_of" s_pairs_of, dOf "web_of" s_web_of, dOf "tied_in" s_tied_in, dOf "cut_in" s_cut_in, dOf "cut_down" s_cut_down]
def fn1 : List He.DefD := [dOf "is_order" s_is_order, dOf "is_crowd_in" s_is_crowd_in, dOf "behind_in" s_behind_in, dOf "is_fold" s_is_fold, dOf "is_tied_as_ring" s_is_tied_as_ring, dOf "is_bare_ring" s_is_bare_ring, dOf "least_unlike" s_least_unlike, dOf "hues_behind" s_hues_behind, dOf "greatest_of_fold" s_greatest_of_fold, dOf "by_fold" s_by_fold, dOf "first_greatest" s_first_greatest, dOf "full_from" s_full_from, dOf "full_crowds_in" s_full_crowds_in, dOf "greatest_crowd_in" s_greatest_crowd_in, dOf "greatest_crowd" s_greatest_crowd, dOf "need_place" s_need_place, dOf "neighbours_in" s_neighbours_in, dOf "neighbours" s_neighbours, dOf "_law_b_folds" s__law_b_folds, dOf "_law_b_cut_right" s__law_b_cut_right, dOf "need_two" s_need_two, dOf "need_room" s_need_room, dOf "moved" s_moved, dOf "beside" s_beside, dOf "_law_b_called" s__law_b_called, dOf "is_crowd" s_is_crowd, dOf "_law_b_with_one" s__law_b_with_one, dOf "law" s_law]
def fn : List He.DefD := fn0 ++ fn1
def nm0 : List PySem.Str := ["HueError", "NoWeb", "NoPlace", "NoFold", "TooMany", "is_whole", "is_below", "is_tie", "is_rising", "are_ties", "is_web", "need_web", "need_place", "is_set", "need_set", "all_places", "tied_in", "neighbours_in", "neighbours", "rows_of", "web_of", "pairs_of", "is_crowd_in", "is_crowd", "full_from", "full_crowds_in", "first_greatest", "greatest_crowd_in", "greatest_crowd", "nears_among"]
def nm1 : List PySem.Str := ["all_tied", "foldable", "folded", "walked_back", "shortest_walk", "ring_at", "ring_among", "fold_in", "fold", "is_order", "behind_in", "is_fold", "is_tied_as_ring", "is_bare_ring", "least_unlike", "hues_behind", "greatest_of_fold", "by_fold", "need_room", "need_two", "moved", "beside", "cut_in", "cut_down", "_law_b_stirred", "_law_b_digit", "_law_b_pairs", "_law_b_web", "_law_b_folds", "_law_b_called"]
def nm2 : List PySem.Str := ["_law_b_with_one", "_law_b_cut_right", "MOST_PLACES"]
def nm : List PySem.Str := nm0 ++ nm1 ++ nm2
abbrev Rw : PySem.W.OpenRow := PySem.W.OpenLaw.row PySem.Challenge.rw_hueshare_k18_whole_folds_of_webs_made
def nx (g : Addr → Option Obj) (L : List Addr) : List Addr := L.flatMap fun a => match g a with
  | some o => He.refsD o
  | none => []
def bfs (g : Addr → Option Obj) : Nat → List Addr → List Addr
  | 0, L => L
  | n + 1, L => L ++ bfs g n (nx g L)
def asE (g : Addr → Option Obj) : List Addr := bfs g 4 [mainGlobals]
def hk : PySem.W.Hook where
  α := He.AlD
  obs := fun s => He.obsD fa fn (He.frG s.heap.get? (asE s.heap.get?))
  val := fun _ => He.valD fn
  says := fun _ h => ∃ K : PySem.W.Frag, K.In h ∧ He.SaysD fa fn K
  of := fun _ _ e => ⟨_, He.frG_in, e⟩
  keeps := fun _ _ _ ⟨K, hK, c⟩ k => ⟨K, PySem.W.Frag.In.keeps hK k, c⟩
def ob (s : PySem.W.SharedT) : He.AlD := He.obsD fa fn (He.frG (HandSHeadRun.getT s) (asE (HandSHeadRun.getT s)))
theorem ob_eq (s : PySem.W.SharedT) : ob s = hk.obs s.abs := by
  have e : HandSHeadRun.getT s = s.abs.heap.get? := funext fun a => HandSHeadRun.getT_eq s a
  show He.obsD fa fn (He.frG (HandSHeadRun.getT s) (asE (HandSHeadRun.getT s))) = He.obsD fa fn (He.frG s.abs.heap.get? (asE s.abs.heap.get?))
  rw [e]
set_option maxHeartbeats 0 in
theorem run (w : World) : HandSHeadRun.RunEq Rw (PySem.W.view Rw.prog [69]) hk ob 9000 nm w := by
  intro os
  kernel_rfl
end Lk18
namespace Hs
open PySem PySem.Spec PyProof.Rows L2
abbrev D := PyData
abbrev St := L2.St
/-- what a slot holds: nothing known; a value that nobody changes; a list (rows of lists, a dict) that this slot alone holds; an object of a class with its fields -/
inductive PV where
  | d (x : D) | l (xs : List D) | dc (kvs : List (D × D)) | o (c : Str) (fs : List (Str × PV))
inductive SV where
  | no | d (x : D) | l (xs : List D) | ll (xss : List (List D)) | dc (kvs : List (D × D)) | ob (c : Str) (fs : List (Str × PV)) | tp (ws : List PV) | lo (ws : List PV)
/-- what an expression gives: a value; something new; what a slot holds -/
inductive R where
  | d (x : D) | own (v : SV) | top (i : Nat)
abbrev S := List SV
def keyD : Key → D
  | .inl i => .int i
  | .inr x => .str x
def keysD (ks : List Key) : D := .tuple (ks.map keyD)
/-- a list of ints that may be the text's own (nobody changes it): told by a dict of one key that no dict has -/
def litD (ns : List Int) : D := .dict [(.none, .list (ns.map .int))]
/-- a tuple of ints that the text itself made, known to have no dict of its own -/
def tfD (ns : List Int) : D := .dict [(.none, .tuple (ns.map .int))]
/-- a caught error of the class of that name -/
def excD (c : Str) : D := .dict [(.none, .str c)]
/-- an object of the class of that name that nobody changes -/
def obD (c : Str) (kvs : List (D × D)) : D := .dict ((.none, .bool true) :: (.none, .str c) :: kvs)
/-- an object's fields as a dict's entries -/
def obK (fs : List (Str × V)) : List (Key × V) := fs.map fun p => (.inr p.1, p.2)
/-- .. on the heap: an error of the class at C, at a -/
def ExV (C a : Addr) : HO := .ext fun h => ∃ (oe : Obj) (vs : Array Value), h.get? a = some oe ∧ Zc (.ref C) none oe ∧ oe.data = .fields vs
mutual
inductive Rp (K : PySem.W.Frag) (H : Hp) : V → PyData → Prop
  | non : Rp K H .non .none
  | bl (b : Bool) : Rp K H (.bl b) (.bool b)
  | int (i : Int) : Rp K H (.int i) (.int i)
  | str (x : Str) : Rp K H (.str x) (.str x)
  | lst {a : Addr} {xs : List V} {ds : List PyData} : Rd H a (.lst xs) → xs.length ≤ sizeLine → RpAll K H xs ds → Rp K H (.ref a) (.list ds)
  | tup {a : Addr} {xs : List V} {ds : List PyData} : H a = some (.tup xs) → xs.length ≤ sizeLine → RpAll K H xs ds → Rp K H (.ref a) (.tuple ds)
  | dcK {a : Addr} {ks : List (Key × V)} {kvs : List (PyData × PyData)} : Rd H a (.dK ks) → RpK K H ks kvs → Rp K H (.ref a) (.dict kvs)
  | dcT {a : Addr} {ks : List (List Key × V)} {kvs : List (PyData × PyData)} : H a = some (.dT ks) → RpT K H ks kvs → Rp K H (.ref a) (.dict ((.none, .none) :: kvs))
  | lit {a : Addr} {ns : List Int} : SqL K H a (ns.map V.int) → ns.length ≤ sizeLine → Rp K H (.ref a) (litD ns)
  | exc {a : Addr} {c : Str} : H a = some (ExV (He.ga K c) a) → Rp K H (.ref a) (excD c)
  | tf {a : Addr} {ob : Obj} {ns : List Int} : H a = some (.frz ob (.tup (ns.map V.int))) → ob.cls = .type "tuple" → ob.dict = none → ns.length ≤ sizeLine → Rp K H (.ref a) (tfD ns)
  | obj {a dx : Addr} {c : Str} {fs : List (Str × V)} {kvs : List (PyData × PyData)} : H a = some (.ins (He.ga K c) dx fs) → H dx = some (.own a) → RpK K H (obK fs) kvs → Rp K H (.ref a) (.dict ((.none, .bool true) :: (.none, .str c) :: kvs))
inductive RpAll (K : PySem.W.Frag) (H : Hp) : List V → List PyData → Prop
  | nil : RpAll K H [] []
  | cons {v : V} {vs : List V} {d : PyData} {ds : List PyData} : Rp K H v d → RpAll K H vs ds → RpAll K H (v :: vs) (d :: ds)
inductive RpK (K : PySem.W.Frag) (H : Hp) : List (Key × V) → List (PyData × PyData) → Prop
  | nil : RpK K H [] []
  | cons {k : Key} {v : V} {ks : List (Key × V)} {d : PyData} {kvs : List (PyData × PyData)} : Rp K H v d → RpK K H ks kvs → RpK K H ((k, v) :: ks) ((keyD k, d) :: kvs)
inductive RpT (K : PySem.W.Frag) (H : Hp) : List (List Key × V) → List (PyData × PyData) → Prop
  | nil : RpT K H [] []
  | cons {k : List Key} {v : V} {ks : List (List Key × V)} {d : PyData} {kvs : List (PyData × PyData)} : Rp K H v d → RpT K H ks kvs → RpT K H ((k, v) :: ks) ((keysD k, d) :: kvs)
end
theorem same_sqT {K : PySem.W.Frag} {H H' : Hp} {a : Addr} {xs : List V} (e : Same H H') (h : SqT K H a xs) : SqT K H' a xs := by
  rcases h with (h | ⟨o, h⟩) | h
  · exact .inl (.inl (e _ _ h))
  · exact .inl (.inr ⟨o, e _ _ h⟩)
  · exact .inr h
theorem tupSq {K : PySem.W.Frag} {H : Hp} {a : Addr} {xs : List V} (h : H a = some (.tup xs)) : SqT K H a xs := .inl (.inl h)
theorem same_rd {H H' : Hp} {a : Addr} {u : HO} (e : Same H H') (h : Rd H a u) : Rd H' a u := by
  rcases h with h | ⟨o, h⟩
  · exact .inl (e _ _ h)
  · exact .inr ⟨o, e _ _ h⟩
section
variable {K : PySem.W.Frag} {H H' : Hp}
mutual
theorem Rp.mono (e : Same H H') : ∀ (d : PyData) (v : V), Rp K H v d → Rp K H' v d
  | .none, _, .non => .non
  | .bool _, _, .bl b => .bl b
  | .int _, _, .int i => .int i
  | .str _, _, .str x => .str x
  | .list ds, _, .lst h z a => .lst (same_rd e h) z (RpAll.mono e ds _ a)
  | .tuple ds, _, .tup h z a => .tup (e _ _ h) z (RpAll.mono e ds _ a)
  | .dict kvs, _, .dcK h a => .dcK (same_rd e h) (RpK.mono e kvs _ a)
  | .dict ((.none, .none) :: kvs), _, .dcT h a => .dcT (e _ _ h) (RpT.mono e kvs _ a)
  | _, _, .lit h z => .lit (e.seq h) z
  | _, _, .exc h => .exc (e _ _ h)
  | _, _, .tf h c d z => .tf (e _ _ h) c d z
  | .dict ((.none, .bool true) :: (.none, .str _) :: kvs), _, .obj h1 h2 a => .obj (e _ _ h1) (e _ _ h2) (RpK.mono e kvs _ a)
theorem RpAll.mono (e : Same H H') : ∀ (ds : List PyData) (vs : List V), RpAll K H vs ds → RpAll K H' vs ds
  | [], _, .nil => .nil
  | d :: ds, _, .cons h a => .cons (Rp.mono e d _ h) (RpAll.mono e ds _ a)
theorem RpK.mono (e : Same H H') : ∀ (kvs : List (PyData × PyData)) (ks : List (Key × V)), RpK K H ks kvs → RpK K H' ks kvs
  | [], _, .nil => .nil
  | (_, d) :: kvs, _, .cons h a => .cons (Rp.mono e d _ h) (RpK.mono e kvs _ a)
theorem RpT.mono (e : Same H H') : ∀ (kvs : List (PyData × PyData)) (ks : List (List Key × V)), RpT K H ks kvs → RpT K H' ks kvs
  | [], _, .nil => .nil
  | (_, d) :: kvs, _, .cons h a => .cons (Rp.mono e d _ h) (RpT.mono e kvs _ a)
end
theorem Rp.same {v : V} {d : D} (r : Rp K H v d) (e : Same H H') : Rp K H' v d := Rp.mono e d v r
theorem RpAll.same {vs : List V} {ds : List D} (r : RpAll K H vs ds) (e : Same H H') : RpAll K H' vs ds := RpAll.mono e ds vs r
theorem RpK.same {ks : List (Key × V)} {kvs : List (D × D)} (r : RpK K H ks kvs) (e : Same H H') : RpK K H' ks kvs := RpK.mono e kvs ks r
theorem RpT.same {ks : List (List Key × V)} {kvs : List (D × D)} (r : RpT K H ks kvs) (e : Same H H') : RpT K H' ks kvs := RpT.mono e kvs ks r
theorem RpAll.length : ∀ {vs : List V} {ds : List D}, RpAll K H vs ds → vs.length = ds.length
  | _, _, .nil => rfl
  | _, _, .cons _ a => congrArg (· + 1) (RpAll.length a)
theorem RpAll.append : ∀ {vs ws : List V} {ds es : List D}, RpAll K H vs ds → RpAll K H ws es → RpAll K H (vs ++ ws) (ds ++ es)
  | _, _, _, _, .nil, b => b
  | _, _, _, _, .cons h a, b => .cons h (RpAll.append a b)
theorem RpAll.get : ∀ {vs : List V} {ds : List D} {i : Nat} {d : D}, RpAll K H vs ds → ds[i]? = some d → ∃ v, vs[i]? = some v ∧ Rp K H v d
  | _, _, _, _, .nil, e => by simp at e
  | _, _, 0, _, .cons h _, e => by
    cases e
    exact ⟨_, rfl, h⟩
  | _, _, i + 1, _, .cons _ a, e => RpAll.get (i := i) a e
theorem RpAll.getV : ∀ {vs : List V} {ds : List D} {i : Nat} {v : V}, RpAll K H vs ds → vs[i]? = some v → ∃ d, ds[i]? = some d ∧ Rp K H v d
  | _, _, _, _, .nil, e => by simp at e
  | _, _, 0, _, .cons h _, e => by
    cases e
    exact ⟨_, rfl, h⟩
  | _, _, i + 1, _, .cons _ a, e => RpAll.getV (i := i) a e
theorem RpAll.take : ∀ {vs : List V} {ds : List D} (n : Nat), RpAll K H vs ds → RpAll K H (vs.take n) (ds.take n)
  | _, _, 0, _ => .nil
  | _, _, _ + 1, .nil => .nil
  | _, _, n + 1, .cons h a => .cons h (RpAll.take n a)
theorem RpAll.drop : ∀ {vs : List V} {ds : List D} (n : Nat), RpAll K H vs ds → RpAll K H (vs.drop n) (ds.drop n)
  | _, _, 0, a => a
  | _, _, _ + 1, .nil => .nil
  | _, _, n + 1, .cons _ a => RpAll.drop n a
theorem RpAll.set {v : V} {d : D} (r : Rp K H v d) : ∀ {vs : List V} {ds : List D} (i : Nat), RpAll K H vs ds → RpAll K H (vs.set i v) (ds.set i d)
  | _, _, _, .nil => .nil
  | _, _, 0, .cons _ a => .cons r a
  | _, _, i + 1, .cons h a => .cons h (RpAll.set r i a)
theorem RpAll.ints : ∀ {vs : List V} {ns : List Int}, RpAll K H vs (ns.map PyData.int) → vs = ns.map V.int
  | _, [], .nil => rfl
  | _, n :: ns, .cons (.int _) a => by rw [RpAll.ints a]; rfl
theorem RpAll.of_ints : ∀ ns : List Int, RpAll K H (ns.map V.int) (ns.map PyData.int)
  | [] => .nil
  | n :: ns => .cons (.int n) (RpAll.of_ints ns)
theorem RpAll.bools : ∀ {vs : List V} {ns : List Bool}, RpAll K H vs (ns.map PyData.bool) → vs = ns.map V.bl
  | _, [], .nil => rfl
  | _, n :: ns, .cons (.bl _) a => by rw [RpAll.bools a]; rfl
end
/-- rows of lists, each held by no other -/
inductive LL (K : PySem.W.Frag) (Z H : Hp) : List Addr → List (List D) → Prop
  | nil : LL K Z H [] []
  | cons {q : Addr} {vs : List V} {qs : List Addr} {xs : List D} {xss : List (List D)} : H q = some (.lst vs) → vs.length ≤ sizeLine → RpAll K Z vs xs → LL K Z H qs xss → LL K Z H (q :: qs) (xs :: xss)
def DcAt (K : PySem.W.Frag) (Z H : Hp) (p : Addr) (kvs : List (D × D)) : Prop :=
  (∃ ks, H p = some (.dK ks) ∧ RpK K Z ks kvs) ∨ ∃ ks kvs', kvs = (.none, .none) :: kvs' ∧ H p = some (.dT ks) ∧ RpT K Z ks kvs'
mutual
/-- the parts of a tuple (a list, an object) that one slot alone holds -/
def PartAt (K : PySem.W.Frag) (Z H : Hp) : V → PV → List Addr → Prop
  | v, .d x, F => F = [] ∧ Rp K Z v x
  | v, .l xs, F => ∃ p vs, v = .ref p ∧ F = [p] ∧ H p = some (.lst vs) ∧ vs.length ≤ sizeLine ∧ RpAll K Z vs xs
  | v, .dc kvs, F => ∃ p, v = .ref p ∧ F = [p] ∧ DcAt K Z H p kvs
  | v, .o c fs, F => ∃ p dx vs G, v = .ref p ∧ F = p :: dx :: G ∧ H p = some (.ins (He.ga K c) dx ((fs.map (·.1)).zip vs)) ∧ H dx = some (.own p) ∧ PsAt K Z H vs fs G
def PsAt (K : PySem.W.Frag) (Z H : Hp) : List V → List (Str × PV) → List Addr → Prop
  | [], [], F => F = []
  | v :: vs, (_, w) :: fs, F => ∃ F1 F2, F = F1 ++ F2 ∧ PartAt K Z H v w F1 ∧ PsAt K Z H vs fs F2
  | _, _, _ => False
end
inductive TpAt (K : PySem.W.Frag) (Z H : Hp) : List V → List PV → List Addr → Prop
  | nil : TpAt K Z H [] [] []
  | cons {v : V} {w : PV} {F G : List Addr} {vs : List V} {ws : List PV} : PartAt K Z H v w F → TpAt K Z H vs ws G → TpAt K Z H (v :: vs) (w :: ws) (F ++ G)
mutual
def PV.asD : PV → D
  | .d x => x
  | .l xs => .list xs
  | .dc kvs => .dict kvs
  | .o c fs => obD c (PV.asDs fs)
def PV.asDs : List (Str × PV) → List (D × D)
  | [] => []
  | (n, w) :: fs => (.str n, PV.asD w) :: PV.asDs fs
end
theorem PsAt.tp {K : PySem.W.Frag} {Z H : Hp} : ∀ {fs : List (Str × PV)} {vs : List V} {F : List Addr}, PsAt K Z H vs fs F → TpAt K Z H vs (fs.map (·.2)) F
  | [], [], _, h => by rw [show _ = [] from h]; exact .nil
  | (n, w) :: fs, v :: vs, _, h => by
    obtain ⟨F1, F2, e, h1, h2⟩ := h
    rw [e]; exact .cons h1 (PsAt.tp h2)
  | [], _ :: _, _, h => h.elim
  | _ :: _, [], _, h => h.elim
/-- how a slot's content stands; F: the addresses that it alone holds -/
def SlotAt (K : PySem.W.Frag) (Z H : Hp) (v : Option V) : SV → List Addr → Prop
  | .no, F => F = []
  | .d x, F => F = [] ∧ ∃ u, v = some u ∧ Rp K Z u x
  | .l xs, F => ∃ p vs, v = some (.ref p) ∧ F = [p] ∧ H p = some (.lst vs) ∧ vs.length ≤ sizeLine ∧ RpAll K Z vs xs
  | .ll xss, F => ∃ p qs, v = some (.ref p) ∧ F = p :: qs ∧ H p = some (.lst (qs.map V.ref)) ∧ qs.length ≤ sizeLine ∧ LL K Z H qs xss
  | .dc kvs, F => ∃ p, v = some (.ref p) ∧ F = [p] ∧ DcAt K Z H p kvs
  | .ob c fs, F => ∃ p dx vs G, v = some (.ref p) ∧ F = p :: dx :: G ∧ H p = some (.ins (He.ga K c) dx ((fs.map (·.1)).zip vs)) ∧ H dx = some (.own p) ∧ TpAt K Z H vs (fs.map (·.2)) G
  | .tp ws, F => ∃ p vs, v = some (.ref p) ∧ Z p = some (.tup vs) ∧ vs.length ≤ sizeLine ∧ TpAt K Z H vs ws F
  | .lo ws, F => ∃ p vs G, v = some (.ref p) ∧ F = p :: G ∧ H p = some (.lst vs) ∧ vs.length ≤ sizeLine ∧ TpAt K Z H vs ws G
section
variable {K : PySem.W.Frag} {Z Z' H H' : Hp}
theorem LL.mono (e : Same Z Z') : ∀ {qs : List Addr} {xss : List (List D)}, (∀ a ∈ qs, ∀ o, H a = some o → H' a = some o) → LL K Z H qs xss → LL K Z' H' qs xss
  | _, _, _, .nil => .nil
  | _, _, k, .cons h z a r => .cons (k _ List.mem_cons_self _ h) z (a.same e) (LL.mono e (fun b hb => k b (List.mem_cons_of_mem _ hb)) r)
theorem DcAt.mono {p : Addr} {kvs : List (D × D)} (e : Same Z Z') (kp : ∀ o, H p = some o → H' p = some o) (h : DcAt K Z H p kvs) : DcAt K Z' H' p kvs := by
  rcases h with ⟨ks, e1, r⟩ | ⟨ks, kvs', e0, e1, r⟩
  · exact .inl ⟨ks, kp _ e1, r.same e⟩
  · exact .inr ⟨ks, kvs', e0, kp _ e1, r.same e⟩
theorem DcAt.there {p : Addr} {kvs : List (D × D)} (h : DcAt K Z H p kvs) : H p ≠ none := by
  rcases h with ⟨ks, e1, r⟩ | ⟨ks, kvs', e0, e1, r⟩ <;> (rw [e1]; exact fun z => nomatch z)
mutual
theorem PartAt.mono0 (e : Same Z Z') : ∀ (w : PV) {v : V} {F : List Addr}, (∀ a ∈ F, ∀ o, H a = some o → H' a = some o) → PartAt K Z H v w F → PartAt K Z' H' v w F
  | .d x, _, _, _, h => ⟨h.1, h.2.same e⟩
  | .l xs, _, _, k, h => by
    obtain ⟨p, vs, h1, h2, h3, h4, h5⟩ := h
    exact ⟨p, vs, h1, h2, k p (by rw [h2]; exact List.mem_cons_self) _ h3, h4, h5.same e⟩
  | .dc kvs, _, _, k, h => by
    obtain ⟨p, h1, h2, h3⟩ := h
    exact ⟨p, h1, h2, h3.mono e (k p (by rw [h2]; exact List.mem_cons_self))⟩
  | .o c fs, _, _, k, h => by
    obtain ⟨p, dx, vs, G, h1, h2, h3, h4, h5⟩ := h
    exact ⟨p, dx, vs, G, h1, h2, k p (by rw [h2]; simp) _ h3, k dx (by rw [h2]; simp) _ h4, PsAt.mono0 e fs (fun a ha => k a (by rw [h2]; simp [ha])) h5⟩
theorem PsAt.mono0 (e : Same Z Z') : ∀ (fs : List (Str × PV)) {vs : List V} {F : List Addr}, (∀ a ∈ F, ∀ o, H a = some o → H' a = some o) → PsAt K Z H vs fs F → PsAt K Z' H' vs fs F
  | [], [], _, _, h => h
  | (n, w) :: fs, v :: vs, _, k, h => by
    obtain ⟨F1, F2, e1, h1, h2⟩ := h
    exact ⟨F1, F2, e1, PartAt.mono0 e w (fun a ha => k a (by rw [e1]; exact List.mem_append.mpr (.inl ha))) h1, PsAt.mono0 e fs (fun a ha => k a (by rw [e1]; exact List.mem_append.mpr (.inr ha))) h2⟩
  | [], _ :: _, _, _, h => h.elim
  | _ :: _, [], _, _, h => h.elim
end
theorem PartAt.mono {v : V} {w : PV} {F : List Addr} (e : Same Z Z') (k : ∀ a ∈ F, ∀ o, H a = some o → H' a = some o) (h : PartAt K Z H v w F) : PartAt K Z' H' v w F := PartAt.mono0 e w k h
/-- what is there at all of a part's things: no tuple -/
def HasP (H : Hp) (F : List Addr) : Prop := ∀ a ∈ F, H a ≠ none ∧ ∀ vs, H a ≠ some (.tup vs)
theorem HasP.app {F G : List Addr} (h1 : HasP H F) (h2 : HasP H G) : HasP H (F ++ G) := fun a ha => (List.mem_append.mp ha).elim (h1 a) (h2 a)
theorem HasP.one {p : Addr} {o : HO} (h : H p = some o) (n : ∀ vs, o ≠ .tup vs) : HasP H [p] := fun a ha => by
  obtain rfl : a = p := by simpa using ha
  refine ⟨fun e => ?_, fun vs e => n vs (Option.some.inj (h.symm.trans e))⟩
  rw [h] at e; cases e
mutual
theorem PartAt.has : ∀ (w : PV) {v : V} {F : List Addr}, PartAt K Z H v w F → HasP H F
  | .d x, _, _, h => by rw [h.1]; exact fun a ha => nomatch ha
  | .l xs, _, _, h => by
    obtain ⟨p, vs, h1, h2, h3, h4, h5⟩ := h
    rw [h2]; exact .one h3 fun _ z => nomatch z
  | .dc kvs, _, _, h => by
    obtain ⟨p, h1, h2, h3⟩ := h
    rw [h2]
    rcases h3 with ⟨ks, e1, r⟩ | ⟨ks, kvs', e0, e1, r⟩ <;> exact .one e1 fun _ z => nomatch z
  | .o c fs, _, _, h => by
    obtain ⟨p, dx, vs, G, h1, h2, h3, h4, h5⟩ := h
    rw [h2]
    exact HasP.app (F := [p]) (.one h3 fun _ z => nomatch z) (HasP.app (F := [dx]) (.one h4 fun _ z => nomatch z) (PsAt.has fs h5))
theorem PsAt.has : ∀ (fs : List (Str × PV)) {vs : List V} {F : List Addr}, PsAt K Z H vs fs F → HasP H F
  | [], [], _, h => by rw [show _ = [] from h]; exact fun a ha => nomatch ha
  | (n, w) :: fs, v :: vs, _, h => by
    obtain ⟨F1, F2, e1, h1, h2⟩ := h
    rw [e1]
    exact (PartAt.has w h1).app (PsAt.has fs h2)
  | [], _ :: _, _, h => h.elim
  | _ :: _, [], _, h => h.elim
end
theorem PartAt.there {v : V} {w : PV} {F : List Addr} (h : PartAt K Z H v w F) : ∀ a ∈ F, H a ≠ none := fun a ha => (PartAt.has w h a ha).1
theorem TpAt.mono (e : Same Z Z') : ∀ {vs : List V} {ws : List PV} {F : List Addr}, (∀ a ∈ F, ∀ o, H a = some o → H' a = some o) → TpAt K Z H vs ws F → TpAt K Z' H' vs ws F
  | _, _, _, _, .nil => .nil
  | _, _, _, k, .cons h r => .cons (h.mono e fun a ha => k a (List.mem_append.mpr (.inl ha))) (TpAt.mono e (fun a ha => k a (List.mem_append.mpr (.inr ha))) r)
theorem TpAt.there {vs : List V} {ws : List PV} {F : List Addr} (h : TpAt K Z H vs ws F) : ∀ a ∈ F, H a ≠ none := by
  induction h with
  | nil => intro a ha; cases ha
  | cons h r ih =>
    intro a ha
    rcases List.mem_append.mp ha with ha | ha
    · exact h.there a ha
    · exact ih a ha
theorem TpAt.length {vs : List V} {ws : List PV} {F : List Addr} (h : TpAt K Z H vs ws F) : vs.length = ws.length := by
  induction h with
  | nil => rfl
  | cons h r ih => rw [List.length_cons, List.length_cons, ih]
theorem SlotAt.mono {v : Option V} {sv : SV} {F : List Addr} (e : Same Z Z') (k : ∀ a ∈ F, ∀ o, H a = some o → H' a = some o) (h : SlotAt K Z H v sv F) : SlotAt K Z' H' v sv F := by
  cases sv with
  | no => exact h
  | d x =>
    obtain ⟨h1, u, h2, r⟩ := h
    exact ⟨h1, u, h2, r.same e⟩
  | l xs =>
    obtain ⟨p, vs, h1, h2, h3, h4, h5⟩ := h
    exact ⟨p, vs, h1, h2, k p (by rw [h2]; exact List.mem_cons_self) _ h3, h4, h5.same e⟩
  | ll xss =>
    obtain ⟨p, qs, h1, h2, h3, h4, h5⟩ := h
    exact ⟨p, qs, h1, h2, k p (by rw [h2]; exact List.mem_cons_self) _ h3, h4, h5.mono e fun a ha => k a (by rw [h2]; exact List.mem_cons_of_mem _ ha)⟩
  | dc kvs =>
    obtain ⟨p, h1, h2, h3⟩ := h
    exact ⟨p, h1, h2, h3.mono e (k p (by rw [h2]; exact List.mem_cons_self))⟩
  | ob c fs =>
    obtain ⟨p, dx, vs, G, h1, h2, h3, h4, h5⟩ := h
    exact ⟨p, dx, vs, G, h1, h2, k p (by rw [h2]; simp) _ h3, k dx (by rw [h2]; simp) _ h4, h5.mono e fun a ha => k a (by rw [h2]; simp [ha])⟩
  | tp ws =>
    obtain ⟨p, vs, h1, h3, h4, h5⟩ := h
    exact ⟨p, vs, h1, e _ _ h3, h4, h5.mono e k⟩
  | lo ws =>
    obtain ⟨p, vs, G, h1, h2, h3, h4, h5⟩ := h
    exact ⟨p, vs, G, h1, h2, k p (by rw [h2]; simp) _ h3, h4, h5.mono e fun a ha => k a (by rw [h2]; simp [ha])⟩
theorem SlotAt.there {v : Option V} {sv : SV} {F : List Addr} (h : SlotAt K Z H v sv F) : ∀ a ∈ F, H a ≠ none := by
  have LLt : ∀ {qs : List Addr} {xss : List (List D)}, LL K Z H qs xss → ∀ a ∈ qs, H a ≠ none := by
    intro qs xss r
    induction r with
    | nil => intro a ha; cases ha
    | cons h z a r ih =>
      intro b hb
      rcases List.mem_cons.mp hb with rfl | hb
      · rw [h]; exact fun z => nomatch z
      · exact ih b hb
  intro a ha
  cases sv with
  | no => rw [show F = [] from h] at ha; cases ha
  | d x => rw [h.1] at ha; cases ha
  | l xs =>
    obtain ⟨p, vs, h1, h2, h3, h4, h5⟩ := h
    rw [h2] at ha
    obtain rfl : a = p := by simpa using ha
    rw [h3]; exact fun z => nomatch z
  | ll xss =>
    obtain ⟨p, qs, h1, h2, h3, h4, h5⟩ := h
    rw [h2] at ha
    rcases List.mem_cons.mp ha with rfl | ha
    · rw [h3]; exact fun z => nomatch z
    · exact LLt h5 a ha
  | dc kvs =>
    obtain ⟨p, h1, h2, h3⟩ := h
    rw [h2] at ha
    obtain rfl : a = p := by simpa using ha
    exact h3.there
  | ob c fs =>
    obtain ⟨p, dx, vs, G, h1, h2, h3, h4, h5⟩ := h
    rw [h2] at ha
    rcases List.mem_cons.mp ha with rfl | ha
    · rw [h3]; exact fun z => nomatch z
    · rcases List.mem_cons.mp ha with rfl | ha
      · rw [h4]; exact fun z => nomatch z
      · exact h5.there a ha
  | tp ws =>
    obtain ⟨p, vs, h1, h3, h4, h5⟩ := h
    exact h5.there a ha
  | lo ws =>
    obtain ⟨p, vs, G, h1, h2, h3, h4, h5⟩ := h
    rw [h2] at ha
    rcases List.mem_cons.mp ha with rfl | ha
    · rw [h3]; exact fun z => nomatch z
    · exact h5.there a ha
theorem DcAt.nt {p : Addr} {kvs : List (D × D)} (h : DcAt K Z H p kvs) : ∀ vs, H p ≠ some (.tup vs) := by
  intro vs
  rcases h with ⟨ks, e1, r⟩ | ⟨ks, kvs', e0, e1, r⟩ <;> (rw [e1]; exact fun z => nomatch z)
theorem PartAt.nt {v : V} {w : PV} {F : List Addr} (h : PartAt K Z H v w F) : ∀ a ∈ F, ∀ vs, H a ≠ some (.tup vs) := fun a ha => (PartAt.has w h a ha).2
theorem TpAt.nt {vs : List V} {ws : List PV} {F : List Addr} (h : TpAt K Z H vs ws F) : ∀ a ∈ F, ∀ vs, H a ≠ some (.tup vs) := by
  induction h with
  | nil => intro a ha; cases ha
  | cons h r ih =>
    intro a ha
    rcases List.mem_append.mp ha with ha | ha
    · exact h.nt a ha
    · exact ih a ha
theorem SlotAt.nt {v : Option V} {sv : SV} {F : List Addr} (h : SlotAt K Z H v sv F) : ∀ a ∈ F, ∀ vs, H a ≠ some (.tup vs) := by
  have LLt : ∀ {qs : List Addr} {xss : List (List D)}, LL K Z H qs xss → ∀ a ∈ qs, ∀ vs, H a ≠ some (.tup vs) := by
    intro qs xss r
    induction r with
    | nil => intro a ha; cases ha
    | cons h z a r ih =>
      intro b hb us
      rcases List.mem_cons.mp hb with rfl | hb
      · rw [h]; exact fun z => nomatch z
      · exact ih b hb us
  intro a ha us
  cases sv with
  | no => rw [show F = [] from h] at ha; cases ha
  | d x => rw [h.1] at ha; cases ha
  | l xs =>
    obtain ⟨p, vs, h1, h2, h3, h4, h5⟩ := h
    rw [h2] at ha
    obtain rfl : a = p := by simpa using ha
    rw [h3]; exact fun z => nomatch z
  | ll xss =>
    obtain ⟨p, qs, h1, h2, h3, h4, h5⟩ := h
    rw [h2] at ha
    rcases List.mem_cons.mp ha with rfl | ha
    · rw [h3]; exact fun z => nomatch z
    · exact LLt h5 a ha us
  | dc kvs =>
    obtain ⟨p, h1, h2, h3⟩ := h
    rw [h2] at ha
    obtain rfl : a = p := by simpa using ha
    exact h3.nt us
  | ob c fs =>
    obtain ⟨p, dx, vs, G, h1, h2, h3, h4, h5⟩ := h
    rw [h2] at ha
    rcases List.mem_cons.mp ha with rfl | ha
    · rw [h3]; exact fun z => nomatch z
    · rcases List.mem_cons.mp ha with rfl | ha
      · rw [h4]; exact fun z => nomatch z
      · exact h5.nt a ha us
  | tp ws =>
    obtain ⟨p, vs, h1, h3, h4, h5⟩ := h
    exact h5.nt a ha us
  | lo ws =>
    obtain ⟨p, vs, G, h1, h2, h3, h4, h5⟩ := h
    rw [h2] at ha
    rcases List.mem_cons.mp ha with rfl | ha
    · rw [h3]; exact fun z => nomatch z
    · exact h5.nt a ha us
end
/-- the state: Z what nobody changes, Y what others hold, H all; σ the slots' values, s what they hold -/
structure OwnF (K : PySem.W.Frag) (Z Y H : Hp) (σ : St) (s : S) (F : Nat → List Addr) : Prop where
  at_ : ∀ i, SlotAt K Z H (σ.getD i none) (s.getD i .no) (F i)
  nd : ∀ i, (F i).Nodup
  dj : ∀ i j a, a ∈ F i → a ∈ F j → i = j
  fr : ∀ i a, a ∈ F i → Z a = none ∧ Y a = none
structure Rel (K : PySem.W.Frag) (Z Y H : Hp) (σ : St) (s : S) : Prop where
  zh : Same Z H
  yh : Same Y H
  zy : ∀ a, Z a ≠ none → Y a = none
  yt : ∀ a vs, Y a ≠ some (.tup vs)
  len : σ.length = s.length
  own : ∃ F, OwnF K Z Y H σ s F
section
variable {K : PySem.W.Frag} {Z Z' Y Y' H H' : Hp} {σ σ' : St} {s s' : S}
/-- the slots put otherwise, some forgotten -/
theorem Rel.re (r : Rel K Z Y H σ s) (f : Nat → Option Nat) (hl : σ'.length = s'.length)
    (h : ∀ k, match f k with | none => s'.getD k .no = .no ∨ ∃ x v, s'.getD k .no = .d x ∧ σ'.getD k none = some v ∧ Rp K Z v x | some j => s'.getD k .no = s.getD j .no ∧ σ'.getD k none = σ.getD j none)
    (inj : ∀ k k' j, f k = some j → f k' = some j → k = k') : Rel K Z Y H σ' s' := by
  obtain ⟨F, o⟩ := r.own
  refine ⟨r.zh, r.yh, r.zy, r.yt, hl, fun k => match f k with | none => [] | some j => F j, fun k => ?_, fun k => ?_, fun k k' a ha ha' => ?_, fun k a ha => ?_⟩
  · have hk := h k
    cases e : f k with
    | none =>
      rw [e] at hk
      rcases hk with hk | ⟨x, v, h1, h2, h3⟩
      · rw [hk]; exact rfl
      · rw [h1]; exact ⟨rfl, v, h2, h3⟩
    | some j =>
      rw [e] at hk
      rw [hk.1, hk.2]
      exact o.at_ j
  · cases e : f k with
    | none => exact .nil
    | some j => exact o.nd j
  · cases e : f k with
    | none => rw [e] at ha; cases ha
    | some j =>
      rw [e] at ha
      cases e' : f k' with
      | none => rw [e'] at ha'; cases ha'
      | some j' =>
        rw [e'] at ha'
        have := o.dj j j' a ha ha'
        subst this
        exact inj k k' j e e'
  · cases e : f k with
    | none => rw [e] at ha; cases ha
    | some j =>
      rw [e] at ha
      exact o.fr j a ha
theorem getD_app_lt {α : Type} {l r : List α} {i : Nat} {d : α} (h : i < l.length) : (l ++ r).getD i d = l.getD i d := by
  rw [List.getD_eq_getElem?_getD, List.getD_eq_getElem?_getD, List.getElem?_append_left h]
theorem getD_app_ge {α : Type} {l r : List α} {i : Nat} {d : α} (h : l.length ≤ i) : (l ++ r).getD i d = r.getD (i - l.length) d := by
  rw [List.getD_eq_getElem?_getD, List.getD_eq_getElem?_getD, List.getElem?_append_right h]
theorem getD_out {α : Type} {l : List α} {i : Nat} {d : α} (h : l.length ≤ i) : l.getD i d = d := by
  rw [List.getD_eq_getElem?_getD, List.getElem?_eq_none h]; rfl
theorem getD_set_self {α : Type} {l : List α} {i : Nat} {d x : α} (h : i < l.length) : (l.set i x).getD i d = x := by
  rw [List.getD_eq_getElem?_getD, List.getElem?_set_self h]; rfl
theorem getD_set_ne {α : Type} {l : List α} {i j : Nat} {d x : α} (h : i ≠ j) : (l.set i x).getD j d = l.getD j d := by
  rw [List.getD_eq_getElem?_getD, List.getD_eq_getElem?_getD, List.getElem?_set_ne h]
/-- the last slots put aside: whatever happens to the others, they stand -/
theorem Rel.frame {ts : St} {us : S} (r : Rel K Z Y H (σ ++ ts) (s ++ us)) (hl : σ.length = s.length) :
    ∃ Y', Same Y Y' ∧ Rel K Z Y' H σ s ∧ (∀ Z1 H1 σ1 s1, Same Z Z1 → Rel K Z1 Y' H1 σ1 s1 → Rel K Z1 Y H1 (σ1 ++ ts) (s1 ++ us)) ∧ ∀ j, ∃ F, SlotAt K Z Y' (ts.getD j none) (us.getD j .no) F := by
  classical
  obtain ⟨F, o⟩ := r.own
  have hl2 : ts.length = us.length := by
    have := r.len
    rw [List.length_append, List.length_append] at this
    omega
  -- what the last slots hold
  refine ⟨fun a => if ∃ i, σ.length ≤ i ∧ a ∈ F i then H a else Y a, fun a q e => ?_, ⟨r.zh, fun a q e => ?_, fun a hz => ?_, fun a vs => ?_, hl, fun i => if i < σ.length then F i else [], fun i => ?_, fun i => ?_, fun i j a ha ha' => ?_, fun i a ha => ?_⟩, ?_⟩
  · show (if _ then _ else _) = _
    split
    · rename_i hc
      obtain ⟨i, _, hi⟩ := hc
      rw [(o.fr i a hi).2] at e; cases e
    · exact e
  · have e : (if ∃ i, σ.length ≤ i ∧ a ∈ F i then H a else Y a) = some q := e
    split at e
    · exact e
    · exact r.yh a q e
  · show (if _ then _ else _) = _
    split
    · rename_i hc
      obtain ⟨i, _, hi⟩ := hc
      exact absurd (o.fr i a hi).1 hz
    · exact r.zy a hz
  · show (if _ then _ else _) ≠ _
    split
    · rename_i hc
      obtain ⟨i, _, hi⟩ := hc
      exact (o.at_ i).nt a hi vs
    · exact r.yt a vs
  · by_cases hi : i < σ.length
    · rw [if_pos hi]
      have := o.at_ i
      rw [getD_app_lt hi, getD_app_lt (by omega)] at this
      exact this
    · rw [if_neg hi, getD_out (l := s) (by omega)]
      exact rfl
  · by_cases hi : i < σ.length
    · rw [if_pos hi]; exact o.nd i
    · rw [if_neg hi]; exact .nil
  · by_cases hi : i < σ.length
    · by_cases hj : j < σ.length
      · rw [if_pos hi] at ha; rw [if_pos hj] at ha'
        exact o.dj i j a ha ha'
      · rw [if_neg hj] at ha'; cases ha'
    · rw [if_neg hi] at ha; cases ha
  · by_cases hi : i < σ.length
    · rw [if_pos hi] at ha
      refine ⟨(o.fr i a ha).1, ?_⟩
      show (if _ then _ else _) = _
      rw [if_neg]
      · exact (o.fr i a ha).2
      · rintro ⟨j, hj, ha'⟩
        have := o.dj i j a ha ha'
        omega
    · rw [if_neg hi] at ha; cases ha
  refine ⟨?_, fun j => ⟨F (σ.length + j), ?_⟩⟩
  rotate_left
  · have q := o.at_ (σ.length + j)
    rw [getD_app_ge (by omega), getD_app_ge (by omega), ← hl, Nat.add_sub_cancel_left] at q
    exact q.mono (Same.refl _) fun a ha ob e => (if_pos ⟨_, Nat.le_add_right _ _, ha⟩ : (if ∃ i, σ.length ≤ i ∧ a ∈ F i then H a else Y a) = H a).trans e
  · intro Z1 H1 σ1 s1 hz r1
    obtain ⟨F1, o1⟩ := r1.own
    have yy : ∀ i, σ.length ≤ i → ∀ a ∈ F i, (if ∃ i, σ.length ≤ i ∧ a ∈ F i then H a else Y a) = H a := fun i hi a ha => if_pos ⟨i, hi, ha⟩
    refine ⟨r1.zh, fun a q e => r1.yh a q ?_, fun a hza => ?_, r.yt, by rw [List.length_append, List.length_append, r1.len, hl2], fun i => if i < σ1.length then F1 i else F (i - σ1.length + σ.length), fun i => ?_, fun i => ?_, fun i j a ha ha' => ?_, fun i a ha => ?_⟩
    · show (if _ then _ else _) = _
      split
      · rename_i hc
        obtain ⟨i, _, hi⟩ := hc
        rw [(o.fr i a hi).2] at e; cases e
      · exact e
    · have q := r1.zy a hza
      have q : (if ∃ i, σ.length ≤ i ∧ a ∈ F i then H a else Y a) = none := q
      split at q
      · rename_i hc
        obtain ⟨i, _, hi⟩ := hc
        exact (o.fr i a hi).2
      · exact q
    · by_cases hi : i < σ1.length
      · rw [if_pos hi, getD_app_lt hi, getD_app_lt (by have := r1.len; omega)]
        exact o1.at_ i
      · rw [if_neg hi, getD_app_ge (by omega), getD_app_ge (by have := r1.len; omega), ← r1.len]
        have q := o.at_ (i - σ1.length + σ.length)
        rw [getD_app_ge (by omega), getD_app_ge (by omega), ← hl, Nat.add_sub_cancel] at q
        refine q.mono hz fun a ha ob e => ?_
        refine r1.yh a ob ?_
        exact (yy _ (by omega) a ha).trans e
    · by_cases hi : i < σ1.length
      · rw [if_pos hi]; exact o1.nd i
      · rw [if_neg hi]; exact o.nd _
    · have cross : ∀ i k, a ∈ F1 i → σ.length ≤ k → a ∈ F k → False := fun i k h1 hk h2 => by
        have q := (o1.fr i a h1).2
        exact (o.at_ k).there a h2 ((yy k hk a h2).symm.trans q)
      by_cases hi : i < σ1.length
      · rw [if_pos hi] at ha
        by_cases hj : j < σ1.length
        · rw [if_pos hj] at ha'; exact o1.dj i j a ha ha'
        · rw [if_neg hj] at ha'; exact (cross i _ ha (by omega) ha').elim
      · rw [if_neg hi] at ha
        by_cases hj : j < σ1.length
        · rw [if_pos hj] at ha'; exact (cross j _ ha' (by omega) ha).elim
        · rw [if_neg hj] at ha'
          have := o.dj _ _ a ha ha'
          omega
    · by_cases hi : i < σ1.length
      · rw [if_pos hi] at ha
        have q := o1.fr i a ha
        refine ⟨q.1, ?_⟩
        have q2 : (if ∃ i, σ.length ≤ i ∧ a ∈ F i then H a else Y a) = none := q.2
        split at q2
        · rename_i hc
          obtain ⟨j, _, hj⟩ := hc
          exact (o.fr j a hj).2
        · exact q2
      · rw [if_neg hi] at ha
        refine ⟨?_, (o.fr _ a ha).2⟩
        cases e : Z1 a with
        | none => rfl
        | some q =>
          have := r1.zy a (by rw [e]; exact fun z => nomatch z)
          exact absurd ((yy _ (by omega) a ha).symm.trans this) ((o.at_ _).there a ha)
/-- the heap and what nobody changes have grown -/
theorem Rel.grow (r : Rel K Z Y H σ s) (hh : Same H H') (hz : Same Z Z') (zh : Same Z' H') (new : ∀ a, H a ≠ none → Z' a = Z a) : Rel K Z' Y H' σ s := by
  obtain ⟨F, o⟩ := r.own
  refine ⟨zh, fun a q e => hh a q (r.yh a q e), fun a hz' => ?_, r.yt, r.len, F, fun i => ?_, o.nd, o.dj, fun i a ha => ?_⟩
  · cases e : Y a with
    | none => rfl
    | some q =>
      have h1 : H a ≠ none := by rw [r.yh a q e]; exact fun z => nomatch z
      rw [new a h1] at hz'
      rw [r.zy a hz'] at e; cases e
  · exact (o.at_ i).mono hz fun a _ ob e => hh a ob e
  · have h1 := (o.at_ i).there a ha
    rw [new a h1]
    exact o.fr i a ha
theorem same_upd {H : Hp} {p : Addr} {o : HO} (h : H p = none) : Same H (upd H p o) := fun b x e => by
  rw [upd_ne (ne_of_none e h)]
  exact e
theorem Rel.fresh (r : Rel K Z Y H σ s) {p : Addr} (h : H p = none) : Z p = none := r.zh.free h
/-- a new slot behind the others, of new things -/
theorem Rel.push (r : Rel K Z Y H σ s) {v : Option V} {sv : SV} {F : List Addr} (hh : Same H H') (hz : Same Z Z') (zh : Same Z' H') (new : ∀ a, H a ≠ none → Z' a = Z a) (h : SlotAt K Z' H' v sv F) (nd : F.Nodup)
    (fr : ∀ a ∈ F, H a = none ∧ Z' a = none) : Rel K Z' Y H' (σ ++ [v]) (s ++ [sv]) := by
  obtain ⟨G, o⟩ := r.own
  have g := r.grow hh hz zh new
  have hd : ∀ i, ∀ a ∈ F, a ∉ G i := fun i a ha hg => (o.at_ i).there a hg (fr a ha).1
  have o' : OwnF K Z' Y H' σ s G := ⟨fun i => (o.at_ i).mono hz fun a _ ob e => hh a ob e, o.nd, o.dj, fun i a ha => by
    rw [new a ((o.at_ i).there a ha)]
    exact o.fr i a ha⟩
  refine ⟨zh, g.yh, g.zy, g.yt, by rw [List.length_append, List.length_append, r.len]; rfl, fun i => if i = σ.length then F else G i, fun i => ?_, fun i => ?_, fun i j a ha ha' => ?_, fun i a ha => ?_⟩
  · by_cases hi : i = σ.length
    · rw [if_pos hi, getD_app_ge (by omega), getD_app_ge (by have := r.len; omega), hi, Nat.sub_self, ← r.len, Nat.sub_self]
      exact h
    · rw [if_neg hi]
      have q := o'.at_ i
      by_cases hlt : i < σ.length
      · rw [getD_app_lt hlt, getD_app_lt (by have := r.len; omega)]
        exact q
      · rw [getD_out (l := s ++ [sv]) (by rw [List.length_append]; have := r.len; show s.length + 1 ≤ i; omega)]
        rw [getD_out (l := s) (by have := r.len; omega)] at q
        exact q
  · by_cases hi : i = σ.length
    · rw [if_pos hi]; exact nd
    · rw [if_neg hi]; exact o'.nd i
  · by_cases hi : i = σ.length
    · rw [if_pos hi] at ha
      by_cases hj : j = σ.length
      · rw [hi, hj]
      · rw [if_neg hj] at ha'; exact (hd j a ha ha').elim
    · rw [if_neg hi] at ha
      by_cases hj : j = σ.length
      · rw [if_pos hj] at ha'; exact (hd i a ha' ha).elim
      · rw [if_neg hj] at ha'; exact o'.dj i j a ha ha'
  · by_cases hi : i = σ.length
    · rw [if_pos hi] at ha
      refine ⟨(fr a ha).2, ?_⟩
      cases e : Y a with
      | none => rfl
      | some q => exact absurd (fr a ha).1 (by rw [r.yh a q e]; exact fun z => nomatch z)
    · rw [if_neg hi] at ha; exact o'.fr i a ha
theorem Rel.push0 (r : Rel K Z Y H σ s) {v : Option V} {sv : SV} (h : SlotAt K Z H v sv []) : Rel K Z Y H (σ ++ [v]) (s ++ [sv]) :=
  r.push (Same.refl _) (Same.refl _) r.zh (fun _ _ => rfl) h .nil (fun a ha => nomatch ha)
theorem Rel.pushD (r : Rel K Z Y H σ s) {v : V} {x : D} (h : Rp K Z v x) : Rel K Z Y H (σ ++ [some v]) (s ++ [.d x]) := r.push0 ⟨rfl, v, rfl, h⟩
theorem Rel.pushN (r : Rel K Z Y H σ s) {v : Option V} : Rel K Z Y H (σ ++ [v]) (s ++ [.no]) := r.push0 rfl
/-- a new list -/
theorem Rel.newL (r : Rel K Z Y H σ s) {p : Addr} {vs : List V} {xs : List D} (h : H p = none) (hz : vs.length ≤ sizeLine) (a : RpAll K Z vs xs) : Rel K Z Y (upd H p (.lst vs)) (σ ++ [some (.ref p)]) (s ++ [.l xs]) :=
  r.push (F := [p]) (same_upd h) (Same.refl _) (r.zh.trans (same_upd h)) (fun _ _ => rfl) ⟨p, vs, rfl, rfl, upd_same, hz, a⟩ (by simp) fun a ha => by
    obtain rfl : a = p := by simpa using ha
    exact ⟨h, r.fresh h⟩
/-- a new dict -/
theorem Rel.newDc (r : Rel K Z Y H σ s) {p : Addr} {o : HO} {kvs : List (D × D)} (h : H p = none) (a : DcAt K Z (upd H p o) p kvs) : Rel K Z Y (upd H p o) (σ ++ [some (.ref p)]) (s ++ [.dc kvs]) :=
  r.push (F := [p]) (same_upd h) (Same.refl _) (r.zh.trans (same_upd h)) (fun _ _ => rfl) ⟨p, rfl, rfl, a⟩ (by simp) fun a ha => by
    obtain rfl : a = p := by simpa using ha
    exact ⟨h, r.fresh h⟩
/-- what a slot alone holds: nobody else speaks of it -/
theorem OwnF.lone {F : Nat → List Addr} (o : OwnF K Z Y H σ s F) {i j : Nat} {a : Addr} (h : a ∈ F i) (hj : j ≠ i) : a ∉ F j := fun h' => hj (o.dj j i a h' h)
/-- a slot's list is written -/
theorem Rel.write (r : Rel K Z Y H σ s) {i : Nat} {p : Addr} {vs' : List V} {xs xs' : List D} (hs : s.getD i .no = .l xs) (hv : σ.getD i none = some (.ref p)) (hz : vs'.length ≤ sizeLine) (a : RpAll K Z vs' xs') :
    Rel K Z Y (upd H p (.lst vs')) σ (s.set i (.l xs')) := by
  obtain ⟨F, o⟩ := r.own
  have q := o.at_ i
  rw [hs, hv] at q
  obtain ⟨p', vs, h1, h2, h3, h4, h5⟩ := q
  cases h1
  have hi : i < s.length := by
    by_cases h : i < s.length
    · exact h
    · rw [getD_out (by omega)] at hs; cases hs
  have pf := o.fr i p (by rw [h2]; exact List.mem_cons_self)
  refine ⟨fun b x e => ?_, fun b x e => ?_, r.zy, r.yt, by rw [List.length_set]; exact r.len, F, fun j => ?_, o.nd, o.dj, o.fr⟩
  · rw [upd_ne (fun z => by rw [z, pf.1] at e; cases e)]; exact r.zh b x e
  · rw [upd_ne (fun z => by rw [z, pf.2] at e; cases e)]; exact r.yh b x e
  · by_cases hj : i = j
    · subst hj
      rw [getD_set_self hi, hv, h2]
      exact ⟨p, vs', rfl, rfl, upd_same, hz, a⟩
    · rw [getD_set_ne hj]
      refine (o.at_ j).mono (Same.refl _) fun b hb ob e => ?_
      rw [upd_ne]
      · exact e
      · rintro rfl
        exact hj (o.dj i j b (by rw [h2]; exact List.mem_cons_self) hb)
/-- a slot's dict is written -/
theorem Rel.writeDc (r : Rel K Z Y H σ s) {i : Nat} {p : Addr} {ob : HO} {kvs kvs' : List (D × D)} (hs : s.getD i .no = .dc kvs) (hv : σ.getD i none = some (.ref p)) (a : DcAt K Z (upd H p ob) p kvs') :
    Rel K Z Y (upd H p ob) σ (s.set i (.dc kvs')) := by
  obtain ⟨F, o⟩ := r.own
  have q := o.at_ i
  rw [hs, hv] at q
  obtain ⟨p', h1, h2, h3⟩ := q
  cases h1
  have hi : i < s.length := by
    by_cases h : i < s.length
    · exact h
    · rw [getD_out (by omega)] at hs; cases hs
  have pf := o.fr i p (by rw [h2]; exact List.mem_cons_self)
  refine ⟨fun b x e => ?_, fun b x e => ?_, r.zy, r.yt, by rw [List.length_set]; exact r.len, F, fun j => ?_, o.nd, o.dj, o.fr⟩
  · rw [upd_ne (fun z => by rw [z, pf.1] at e; cases e)]; exact r.zh b x e
  · rw [upd_ne (fun z => by rw [z, pf.2] at e; cases e)]; exact r.yh b x e
  · by_cases hj : i = j
    · subst hj
      rw [getD_set_self hi, hv, h2]
      exact ⟨p, rfl, rfl, a⟩
    · rw [getD_set_ne hj]
      refine (o.at_ j).mono (Same.refl _) fun b hb oo e => ?_
      rw [upd_ne]
      · exact e
      · rintro rfl
        exact hj (o.dj i j b (by rw [h2]; exact List.mem_cons_self) hb)
/-- what a slot's content is as a value -/
def asD : SV → Option D
  | .d x => some x
  | .l xs => some (.list xs)
  | .ll xss => some (.list (xss.map .list))
  | .dc kvs => some (.dict kvs)
  | .tp ws => some (.tuple (ws.map PV.asD))
  | .ob c fs => some (obD c (fs.map fun p => (.str p.1, p.2.asD)))
  | .no => none
  | .lo _ => none
theorem DcAt.rp {p : Addr} {kvs : List (D × D)} (h : DcAt K Z H p kvs) (e : Same Z H) : Rp K H (.ref p) (.dict kvs) := by
  rcases h with ⟨ks, e1, r⟩ | ⟨ks, kvs', e0, e1, r⟩
  · exact .dcK (.inl e1) (r.same e)
  · rw [e0]; exact .dcT e1 (r.same e)
mutual
theorem PartAt.rp0 (e : Same Z H) : ∀ (w : PV) {v : V} {F : List Addr}, PartAt K Z H v w F → Rp K H v w.asD
  | .d x, _, _, h => h.2.same e
  | .l xs, _, _, h => by
    obtain ⟨p, vs, h1, h2, h3, h4, h5⟩ := h
    rw [h1]
    exact .lst (.inl h3) h4 (h5.same e)
  | .dc kvs, _, _, h => by
    obtain ⟨p, h1, h2, h3⟩ := h
    rw [h1]
    exact h3.rp e
  | .o c fs, _, _, h => by
    obtain ⟨p, dx, vs, G, h1, h2, h3, h4, h5⟩ := h
    rw [h1]
    exact .obj h3 h4 (PsAt.rp0 e fs h5)
theorem PsAt.rp0 (e : Same Z H) : ∀ (fs : List (Str × PV)) {vs : List V} {F : List Addr}, PsAt K Z H vs fs F → RpK K H (obK ((fs.map (·.1)).zip vs)) (PV.asDs fs)
  | [], [], _, h => .nil
  | (n, w) :: fs, v :: vs, _, h => by
    obtain ⟨F1, F2, e1, h1, h2⟩ := h
    exact .cons (k := .inr n) (PartAt.rp0 e w h1) (PsAt.rp0 e fs h2)
  | [], _ :: _, _, h => h.elim
  | _ :: _, [], _, h => h.elim
end
theorem PartAt.rp {v : V} {w : PV} {F : List Addr} (h : PartAt K Z H v w F) (e : Same Z H) : Rp K H v w.asD := PartAt.rp0 e w h
theorem TpAt.all {vs : List V} {ws : List PV} {F : List Addr} (h : TpAt K Z H vs ws F) (e : Same Z H) : RpAll K H vs (ws.map PV.asD) := by
  induction h with
  | nil => exact .nil
  | cons h r ih => exact .cons (h.rp e) ih
theorem TpAt.keys (e : Same Z H) : ∀ {fs : List (Str × PV)} {vs : List V} {F : List Addr}, TpAt K Z H vs (fs.map (·.2)) F → RpK K H (obK ((fs.map (·.1)).zip vs)) (fs.map fun p => (.str p.1, p.2.asD))
  | [], _, _, .nil => .nil
  | (n, w) :: fs, _, _, .cons h r => .cons (k := .inr n) (h.rp e) (TpAt.keys e r)
theorem LL.all : ∀ {qs : List Addr} {xss : List (List D)}, LL K Z H qs xss → Same Z H → RpAll K H (qs.map V.ref) (xss.map .list)
  | _, _, .nil, _ => .nil
  | _, _, .cons h z a r, e => .cons (.lst (.inl h) z (a.same e)) (LL.all r e)
theorem SlotAt.asD {v : Option V} {sv : SV} {F : List Addr} {x : D} (h : SlotAt K Z H v sv F) (e : Same Z H) (ha : asD sv = some x) : ∃ u, v = some u ∧ Rp K H u x := by
  cases sv with
  | no => cases ha
  | lo ws => cases ha
  | d y =>
    cases ha
    obtain ⟨_, u, h2, r⟩ := h
    exact ⟨u, h2, r.same e⟩
  | l xs =>
    cases ha
    obtain ⟨p, vs, h1, h2, h3, h4, h5⟩ := h
    exact ⟨_, h1, .lst (.inl h3) h4 (h5.same e)⟩
  | ll xss =>
    cases ha
    obtain ⟨p, qs, h1, h2, h3, h4, h5⟩ := h
    exact ⟨_, h1, .lst (.inl h3) (by rw [List.length_map]; exact h4) (h5.all e)⟩
  | dc kvs =>
    cases ha
    obtain ⟨p, h1, h2, h3⟩ := h
    exact ⟨_, h1, h3.rp e⟩
  | ob c fs =>
    cases ha
    obtain ⟨p, dx, vs, G, h1, h2, h3, h4, h5⟩ := h
    exact ⟨_, h1, .obj h3 h4 (h5.keys e)⟩
  | tp ws =>
    cases ha
    obtain ⟨p, vs, h1, h3, h4, h5⟩ := h
    exact ⟨_, h1, .tup (e _ _ h3) h4 (h5.all e)⟩
/-- nobody changes any more what a slot held alone -/
theorem Rel.freeze (r : Rel K Z Y H σ s) {i : Nat} {x : D} (ha : Hs.asD (s.getD i .no) = some x) :
    ∃ Z', Same Z Z' ∧ Rel K Z' Y H σ (s.set i (.d x)) := by
  classical
  obtain ⟨F, o⟩ := r.own
  have hi : i < s.length := by
    by_cases h : i < s.length
    · exact h
    · rw [getD_out (by omega)] at ha; cases ha
  let Z' : Hp := fun a => if a ∈ F i then H a else Z a
  have hz : Same Z Z' := fun a q e => by
    show (if _ then _ else _) = _
    rw [if_neg (fun h => by rw [(o.fr i a h).1] at e; cases e)]
    exact e
  have zh : Same Z' H := fun a q e => by
    have e : (if a ∈ F i then H a else Z a) = some q := e
    split at e
    · exact e
    · exact r.zh a q e
  refine ⟨Z', hz, zh, r.yh, fun a ha => ?_, r.yt, by rw [List.length_set]; exact r.len, fun j => if j = i then [] else F j, fun j => ?_, fun j => ?_, fun j k a ha ha' => ?_, fun j a ha => ?_⟩
  · have e : (if a ∈ F i then H a else Z a) ≠ none := ha
    split at e
    · exact (o.fr i a (by assumption)).2
    · exact r.zy a e
  · by_cases hj : j = i
    · subst hj
      rw [if_pos rfl, getD_set_self hi]
      -- within Z' alone
      have q := o.at_ j
      have q' : SlotAt K Z' Z' (σ.getD j none) (s.getD j .no) (F j) := q.mono hz fun a ha ob e => by
        show (if _ then _ else _) = _
        rw [if_pos ha]; exact e
      obtain ⟨u, h1, h2⟩ := q'.asD (Same.refl _) ha
      exact ⟨rfl, u, h1, h2⟩
    · rw [if_neg hj, getD_set_ne (Ne.symm hj)]
      exact (o.at_ j).mono hz fun a _ ob e => e
  · by_cases hj : j = i
    · rw [if_pos hj]; exact .nil
    · rw [if_neg hj]; exact o.nd j
  · by_cases hj : j = i
    · rw [if_pos hj] at ha; cases ha
    · rw [if_neg hj] at ha
      by_cases hk : k = i
      · rw [if_pos hk] at ha'; cases ha'
      · rw [if_neg hk] at ha'; exact o.dj j k a ha ha'
  · by_cases hj : j = i
    · rw [if_pos hj] at ha; cases ha
    · rw [if_neg hj] at ha
      refine ⟨?_, (o.fr j a ha).2⟩
      show (if _ then _ else _) = _
      rw [if_neg (o.lone ha (Ne.symm hj))]
      exact (o.fr j a ha).1
end
end Hs
namespace Hs
open PySem
abbrev XF := Str → S → Prop
abbrev FE := XF → S → (R → S → Prop) → Prop
abbrev FT := XF → S → (Bool → S → Prop) → Prop
abbrev FA := XF → S → (List R → S → Prop) → Prop
abbrev FO := XF → S → (Option Int → S → Prop) → Prop
structure FEnds where
  nx : S → Prop
  rt : R → S → Prop
  bk : S → Prop := fun _ => False
  ct : S → Prop := fun _ => False
  xx : XF
abbrev FS := FEnds → S → Prop
abbrev FG := D → S → (S → Prop) → Prop
abbrev FI := XF → S → (List D → S → Prop) → Prop
/-- a def: its arguments' slots; what is wanted of an error and of an answer, with the arguments' slots as they end -/
abbrev FSem := List SV → XF → (R → S → Prop) → Prop
abbrev V1 := D → (R → Prop) → Prop
abbrev V2 := D → D → (R → Prop) → Prop
abbrev VN := List D → (R → Prop) → Prop
def svR : R → SV
  | .d x => .d x
  | .own v => v
  | .top _ => .no
/-- a slot's content as a value that may be looked at -/
def viewS : SV → Option D
  | .d x => some x
  | .l xs => some (.list xs)
  | .dc kvs => some (.dict kvs)
  | _ => none
def viewR (s : S) : R → Option D
  | .d x => some x
  | .own v => viewS v
  | .top i => viewS (s.getD i .no)
def look (s : S) (r : R) (k : D → Prop) : Prop :=
  match viewR s r with
  | some d => k d
  | none => False
/-- .. that nobody changes from now on -/
def frz (r : R) (s : S) (k : D → S → Prop) : Prop :=
  match r with
  | .d x => k x s
  | .own v => match asD v with
    | some x => k x s
    | none => False
  | .top i => match asD (s.getD i .no) with
    | some x => k x (s.set i (.d x))
    | none => False
def frzAll : List R → S → (List D → S → Prop) → Prop
  | [], s, k => k [] s
  | r :: rs, s, k => frz r s fun x s1 => frzAll rs s1 fun xs s2 => k (x :: xs) s2
def fVar (i : Nat) : FE := fun _ s Q =>
  match s.getD i .no with
  | .no => False
  | .d x => Q (.d x) s
  | _ => Q (.top i) s
def fC (x : D) : FE := fun _ s Q => Q (.d x) s
def fNil : FA := fun _ s Q => Q [] s
def fCons (a : FE) (r : FA) : FA := fun X s Q => a X s fun x s1 => r X s1 fun xs s2 => Q (x :: xs) s2
def fTup (a : FA) : FE := fun X s Q => a X s fun rs s1 => frzAll rs s1 fun ds s2 => Q (.d (.tuple ds)) s2
def fLst (a : FA) : FE := fun X s Q => a X s fun rs s1 => frzAll rs s1 fun ds s2 => Q (.own (.l ds)) s2
def fOp (g : V2) (a b : FE) : FE := fun X s Q => a X s fun r1 s1 => b X s1 fun r2 s2 => look s2 r1 fun d => look s2 r2 fun e => g d e fun r => Q r s2
def fUn (g : V1) (a : FE) : FE := fun X s Q => a X s fun r1 s1 => look s1 r1 fun d => g d fun r => Q r s1
/-- a built-in called with values that it looks at -/
def fBlt (g : VN) (a : FA) : FE := fun X s Q => a X s fun rs s1 => lookAll s1 rs fun ds => g ds fun r => Q r s1
where lookAll (s : S) : List R → (List D → Prop) → Prop
  | [], k => k []
  | r :: rs, k => look s r fun d => lookAll s rs fun ds => k (d :: ds)
def isB (r : R) (k : Bool → Prop) : Prop :=
  match r with
  | .d (.bool b) => k b
  | _ => False
def fAndV (a b : FE) : FE := fun X s Q => a X s fun r s1 => isB r fun c => if c = true then b X s1 Q else Q (.d (.bool false)) s1
def fOrV (a b : FE) : FE := fun X s Q => a X s fun r s1 => isB r fun c => if c = true then Q (.d (.bool true)) s1 else b X s1 Q
def fNotV (a : FE) : FE := fun X s Q => a X s fun r s1 => isB r fun c => Q (.d (.bool (!c))) s1
def fIfE (t : FT) (a b : FE) : FE := fun X s Q => t X s fun c s1 => if c = true then a X s1 Q else b X s1 Q
/-- a < b < c -/
def fChain (g g' : V2) (a b c : FE) : FE := fun X s Q => a X s fun r1 s1 => b X s1 fun r2 s2 => look s2 r1 fun d => look s2 r2 fun e => g d e fun r => isB r fun k =>
  if k = true then c X s2 fun r3 s3 => look s3 r2 fun e' => look s3 r3 fun h => g' e' h fun z => Q z s3 else Q (.d (.bool false)) s2
def fNoPart : FO := fun _ s Q => Q none s
def fPart (a : FE) : FO := fun X s Q => a X s fun r s1 => match r with
  | .d (.int i) => Q (some i) s1
  | _ => False
def fSl (g : D → Option Int → Option Int → (R → Prop) → Prop) (a : FE) (lo hi : FO) : FE := fun X s Q => a X s fun r s1 => lo X s1 fun l s2 => hi X s2 fun h s3 => look s3 r fun d => g d l h fun z => Q z s3
def fB (a : FE) : FT := fun X s Q => a X s fun r s1 => isB r fun c => Q c s1
def fAnd (t u : FT) : FT := fun X s Q => t X s fun c s1 => if c = true then u X s1 Q else Q false s1
def fOr (t u : FT) : FT := fun X s Q => t X s fun c s1 => if c = true then Q true s1 else u X s1 Q
def fNot (t : FT) : FT := fun X s Q => t X s fun c s1 => Q (!c) s1
def fYes : FT := fun _ s Q => Q true s
def bindA : List Bool → List R → S → (List SV → S → Prop) → Prop
  | [], [], s, k => k [] s
  | false :: ms, r :: rs, s, k => frz r s fun x s1 => bindA ms rs s1 fun svs s2 => k (.d x :: svs) s2
  | true :: ms, .top i :: rs, s, k => bindA ms rs (s.set i .no) fun svs s2 => k (s.getD i .no :: svs) s2
  | true :: ms, .d x :: rs, s, k => bindA ms rs s fun svs s2 => k (.d x :: svs) s2
  | true :: ms, .own v :: rs, s, k => bindA ms rs s fun svs s2 => k (v :: svs) s2
  | _, _, _, _ => False
/-- what the slots that were lent hold behind the call -/
def putB : List Bool → List R → S → S → S
  | true :: ms, .top i :: rs, f :: fin, s => putB ms rs fin (s.set i f)
  | _ :: ms, _ :: rs, _ :: fin, s => putB ms rs fin s
  | _, _, _, s => s
def fCall (sem : FSem) (ms : List Bool) (a : FA) : FE := fun X s Q => a X s fun rs s1 => bindA ms rs s1 fun svs s2 => sem svs (fun n fin => X n (putB ms rs fin s2)) fun r fin => Q r (putB ms rs fin s2)
def wipeS (s : S) : List Nat → S
  | [] => s
  | i :: is => wipeS (s.set i .no) is
def fComp (X : XF) (g : FG) (wp : List Nat) (t : FT) (e : FE) (Q : R → S → Prop) : List D → List D → S → Prop
  | [], acc, s => Q (.own (.l acc)) s
  | x :: xs, acc, s => g x s fun s1 => t X s1 fun b s2 => if b = true then e X s2 fun r s3 => frz r s3 fun d s4 => fComp X g wp t e Q xs (acc ++ [d]) (wipeS s4 wp) else fComp X g wp t e Q xs acc (wipeS s2 wp)
def fLc (it : FI) (g : FG) (wp : List Nat) (t : FT) (e : FE) : FE := fun X s Q => it X s fun xs s1 => xs.length ≤ sizeLine ∧ fComp (fun _ _ => False) g wp t e Q xs [] (wipeS s1 wp)
def iSeq (a : FE) : FI := fun X s Q => a X s fun r s1 => frz r s1 fun d s2 => match d with
  | .list xs => Q xs s2
  | .tuple xs => Q xs s2
  | _ => False
def lim62 (i : Int) : Prop := -(2 ^ 62) ≤ i ∧ i < 2 ^ 62
def rangeD (lo : Int) (n : Nat) : List D := (List.range n).map fun (k : Nat) => PyData.int (lo + (k : Int))
def iRange1 (a : FA) : FI := fun X s Q => a X s fun rs s1 => match rs with
  | [.d (.int j)] => lim62 j ∧ Q (rangeD 0 j.toNat) s1
  | _ => False
def iRange2 (a : FA) : FI := fun X s Q => a X s fun rs s2 => match rs with
  | [.d (.int i), .d (.int j)] => lim62 i ∧ lim62 j ∧ Q (rangeD i (j - i).toNat) s2
  | _ => False
def enumD (xs : List D) : List D := xs.zipIdx.map fun p => .tuple [.int (p.2 : Nat), p.1]
def iEnum (a : FA) : FI := fun X s Q => a X s fun rs s1 => frzAll rs s1 fun ds s2 => match ds with
  | [.list xs] => Q (enumD xs) s2
  | [.tuple xs] => Q (enumD xs) s2
  | _ => False
def zipD (xs ys : List D) : List D := List.zipWith (fun x y => .tuple [x, y]) xs ys
def iZip (a : FA) : FI := fun X s Q => a X s fun rs s1 => frzAll rs s1 fun ds s4 => match ds with
  | [.list xs, .list ys] => Q (zipD xs ys) s4
  | [.tuple xs, .list ys] => Q (zipD xs ys) s4
  | [.list xs, .tuple ys] => Q (zipD xs ys) s4
  | [.tuple xs, .tuple ys] => Q (zipD xs ys) s4
  | _ => False
def gNm (i : Nat) : FG := fun d s k => k (s.set i (.d d))
def gTp : List FG → FG := fun gs d s k => match d with
  | .tuple xs => gTps gs xs s k
  | _ => False
where gTps : List FG → List D → S → (S → Prop) → Prop
  | [], [], s, k => k s
  | g :: gs, x :: xs, s, k => g x s fun s1 => gTps gs xs s1 k
  | _, _, _, _ => False
def fNext : FS := fun E s => E.nx s
def fSeq (a b : FS) : FS := fun E s => a { E with nx := fun s1 => b E s1 } s
def fIfS (t : FT) (a b : FS) : FS := fun E s => t E.xx s fun c s1 => if c = true then a E s1 else b E s1
def fRet (a : FE) : FS := fun E s => a E.xx s E.rt
def fRetN : FS := fun E s => E.rt (.d .none) s
def fBreak : FS := fun E s => E.bk s
def fDrop (a : FE) : FS := fun E s => a E.xx s fun _ s1 => E.nx s1
def fRaise (n : Str) : FS := fun E s => E.xx n s
def putR (i : Nat) (r : R) (s : S) (k : S → Prop) : Prop :=
  match r with
  | .d x => k (s.set i (.d x))
  | .own v => k (s.set i v)
  | .top j => match asD (s.getD j .no) with
    | some x => k ((s.set j (.d x)).set i (.d x))
    | none => False
def fAsg (i : Nat) (a : FE) : FS := fun E s => a E.xx s fun r s1 => putR i r s1 E.nx
/-- a, b = e -/
def fUnp (g : FG) (a : FE) : FS := fun E s => a E.xx s fun r s1 => frz r s1 fun d s2 => g d s2 E.nx
/-- a, b = e1, e2 -/
def fPar (i j : Nat) (a : FA) : FS := fun E s => a E.xx s fun rs s2 => match rs with
  | [r1, r2] => frz r1 s2 fun d1 s3 => frz r2 s3 fun d2 s4 => E.nx ((s4.set i (.d d1)).set j (.d d2))
  | _ => False
def fLoop (g : FG) (wp : List Nat) (b : FS) (E : FEnds) : List D → S → Prop
  | [], s => E.nx s
  | x :: xs, s => g x s fun s1 => b { E with nx := fun s2 => fLoop g wp b E xs (wipeS s2 wp), ct := fun s2 => fLoop g wp b E xs (wipeS s2 wp), bk := fun s2 => E.nx (wipeS s2 wp) } s1
def fFor (it : FI) (g : FG) (wp : List Nat) (b : FS) : FS := fun E s => it E.xx s fun xs s1 => fLoop g wp b E xs (wipeS s1 wp)
def fWhileN (wp : List Nat) (t : FT) (b : FS) (E : FEnds) : Nat → S → Prop
  | 0, _ => False
  | n + 1, s => t E.xx s fun c s1 => if c = true then b { E with nx := fun s2 => fWhileN wp t b E n (wipeS s2 wp), ct := fun s2 => fWhileN wp t b E n (wipeS s2 wp), bk := fun s2 => E.nx (wipeS s2 wp) } s1 else E.nx s1
def fWhile (wp : List Nat) (t : FT) (b : FS) : FS := fun E s => ∃ n, fWhileN wp t b E n (wipeS s wp)
/-- a list of a slot's own, changed by a method -/
def onL (i : Nat) (s : S) (k : List D → Prop) : Prop :=
  match s.getD i .no with
  | .l xs => k xs
  | _ => False
abbrev LM := List D → List D → (D → List D → Prop) → Prop
/-- a method of a slot's own list: what it gives, what the list holds behind it -/
def fLm (i : Nat) (g : LM) (a : FA) : FE := fun X s Q => onL i s fun _ => a X s fun rs s1 => frzAll rs s1 fun ds s2 => onL i s2 fun xs => g xs ds fun d xs' => Q (.d d) (s2.set i (.l xs'))
def mAppend : LM := fun xs ds k => match ds with
  | [d] => xs.length < sizeLine ∧ k .none (xs ++ [d])
  | _ => False
def mExtend : LM := fun xs ds k => match ds with
  | [.list ys] => xs.length + ys.length ≤ sizeLine ∧ k .none (xs ++ ys)
  | _ => False
def mInsert : LM := fun xs ds k => match ds with
  | [.int j, d] => xs.length < sizeLine ∧ 0 ≤ j ∧ j < 2 ^ 63 ∧ k .none (xs.take j.toNat ++ [d] ++ xs.drop j.toNat)
  | _ => False
/-- xs[j] = e -/
def fSetIx (i : Nat) (j a : FE) : FS := fun E s => a E.xx s fun r s1 => onL i s1 fun _ => j E.xx s1 fun rj s2 => match rj with
  | .d (.int k) => frz r s2 fun d s3 => onL i s3 fun xs => 0 ≤ k ∧ k.toNat < xs.length ∧ E.nx (s3.set i (.l (xs.set k.toNat d)))
  | _ => False
def outR (r : R) (s : S) (k : R → S → Prop) : Prop :=
  match r with
  | .d x => k (.d x) s
  | .own v => k (.own v) s
  | .top i => k (.own (s.getD i .no)) (s.set i .no)
def semOf (np nl : Nat) (b : FS) : FSem := fun svs X Q => b { nx := fun s => Q (.d .none) (s.take np), rt := fun r s => outR r s fun r' s' => Q r' (s'.take np), xx := fun n s => X n (s.take np) } (svs ++ List.replicate (nl - np) .no)
end Hs
namespace Hs
open PySem PySem.Spec PyProof.Rows L2
section
variable {K : PySem.W.Frag} {Z Z' Y Y' H H' : Hp} {σ σ' : St} {s s' : S}
theorem Rel.take {ts : St} {us : S} (r : Rel K Z Y H (σ ++ ts) (s ++ us)) (hl : σ.length = s.length) : Rel K Z Y H σ s :=
  r.re (fun k => if k < σ.length then some k else none) hl (fun k => by
    by_cases h : k < σ.length
    · simp only [if_pos h]
      exact ⟨(getD_app_lt (by omega)).symm, (getD_app_lt h).symm⟩
    · simp only [if_neg h]
      exact .inl (getD_out (by omega))) (fun k k' j h h' => by
    by_cases a : k < σ.length
    · by_cases b : k' < σ.length
      · rw [if_pos a] at h; rw [if_pos b] at h'; cases h; cases h'; rfl
      · rw [if_neg b] at h'; cases h'
    · rw [if_neg a] at h; cases h)
theorem Rel.swap {σa σb σc : St} {sa sb sc : S} (r : Rel K Z Y H (σa ++ σb ++ σc) (sa ++ sb ++ sc)) (ha : σa.length = sa.length) (hb : σb.length = sb.length) : Rel K Z Y H (σa ++ σc ++ σb) (sa ++ sc ++ sb) := by
  have hl := r.len
  simp only [List.length_append] at hl
  refine r.re (fun k => if k < σa.length then some k else if k < σa.length + σc.length then some (k + σb.length) else if k < σa.length + σc.length + σb.length then some (k - σc.length) else none)
    (by simp only [List.length_append]; omega) (fun k => ?_) fun k k' j h h' => ?_
  · by_cases h1 : k < σa.length
    · simp only [if_pos h1]
      refine ⟨?_, ?_⟩
      · rw [List.append_assoc, List.append_assoc, getD_app_lt (by omega), getD_app_lt (by omega)]
      · rw [List.append_assoc, List.append_assoc, getD_app_lt h1, getD_app_lt h1]
    · simp only [if_neg h1]
      by_cases h2 : k < σa.length + σc.length
      · simp only [if_pos h2]
        refine ⟨?_, ?_⟩
        · rw [getD_app_lt (l := sa ++ sc) (by rw [List.length_append]; omega), getD_app_ge (by omega), getD_app_ge (by rw [List.length_append]; omega), List.length_append]
          congr 1; omega
        · rw [getD_app_lt (l := σa ++ σc) (by rw [List.length_append]; omega), getD_app_ge (by omega), getD_app_ge (by rw [List.length_append]; omega), List.length_append]
          congr 1; omega
      · simp only [if_neg h2]
        by_cases h3 : k < σa.length + σc.length + σb.length
        · simp only [if_pos h3]
          refine ⟨?_, ?_⟩
          · rw [getD_app_ge (l := sa ++ sc) (by rw [List.length_append]; omega), List.append_assoc sa sb sc, getD_app_ge (l := sa) (by omega), getD_app_lt (l := sb) (by omega), List.length_append]
            congr 1; omega
          · rw [getD_app_ge (l := σa ++ σc) (by rw [List.length_append]; omega), List.append_assoc σa σb σc, getD_app_ge (l := σa) (by omega), getD_app_lt (l := σb) (by omega), List.length_append]
            congr 1; omega
        · simp only [if_neg h3]
          exact .inl (getD_out (by simp only [List.length_append]; omega))
  · split at h <;> split at h' <;> (try split at h) <;> (try split at h') <;> (try split at h) <;> (try split at h') <;> (try cases h) <;> (try injection h with h) <;> (try injection h' with h') <;> (try omega) <;> (try cases h')
    all_goals omega
def Tops (σ : St) (vs : List V) (rs : List R) : Prop := ∀ (k i : Nat), rs[k]? = some (R.top i) → i < σ.length ∧ σ.getD i none = vs[k]?
structure RelX (K : PySem.W.Frag) (Z Y H : Hp) (σ : St) (s : S) (vs : List V) (rs : List R) : Prop where
  rel : Rel K Z Y H (σ ++ vs.map some) (s ++ rs.map svR)
  l1 : σ.length = s.length
  l2 : vs.length = rs.length
  top : Tops σ vs rs
theorem RelX.rel0 {vs : List V} {rs : List R} (r : RelX K Z Y H σ s vs rs) : Rel K Z Y H σ s := r.rel.take r.l1
theorem RelX.nil (r : Rel K Z Y H σ s) : RelX K Z Y H σ s [] [] := ⟨by simpa using r, r.len, rfl, fun k i h => by simp at h⟩
theorem Tops.one {v : V} {r : R} (h : ∀ i, r = .top i → i < σ.length ∧ σ.getD i none = some v) : Tops σ [v] [r] := fun k i e => by
  cases k with
  | zero => exact h i (by simpa using e)
  | succ k => simp at e
theorem RelX.d (r : Rel K Z Y H σ s) {v : V} {x : D} (h : Rp K Z v x) : RelX K Z Y H σ s [v] [.d x] :=
  ⟨r.pushD h, r.len, rfl, .one fun i e => nomatch e⟩
theorem RelX.tp (r : Rel K Z Y H σ s) {v : V} {i : Nat} (hi : i < σ.length) (h : σ.getD i none = some v) : RelX K Z Y H σ s [v] [.top i] :=
  ⟨r.pushN, r.len, rfl, .one fun j e => by cases e; exact ⟨hi, h⟩⟩
theorem RelX.own {v : V} {w : SV} (hl : σ.length = s.length) (r : Rel K Z Y H (σ ++ [some v]) (s ++ [w])) : RelX K Z Y H σ s [v] [.own w] :=
  ⟨r, hl, rfl, .one fun i e => nomatch e⟩
/-- results put aside while others come -/
theorem RelX.frame {vs : List V} {rs : List R} (r : RelX K Z Y H σ s vs rs) :
    ∃ Y', Same Y Y' ∧ Rel K Z Y' H σ s ∧ (∀ Z1 H1 σ1 s1, Same Z Z1 → Rel K Z1 Y' H1 σ1 s1 → Rel K Z1 Y H1 σ1 s1) ∧
      (∀ Z1 H1 s1 ws qs, Same Z Z1 → RelX K Z1 Y' H1 σ s1 ws qs → RelX K Z1 Y H1 σ s1 (vs ++ ws) (rs ++ qs)) := by
  obtain ⟨Y', hy, r1, back, _⟩ := r.rel.frame r.l1
  refine ⟨Y', hy, r1, fun Z1 H1 σ1 s1 hz q => (back Z1 H1 σ1 s1 hz q).take q.len, fun Z1 H1 s1 ws qs hz q => ?_⟩
  have b := back Z1 H1 _ _ hz q.rel
  refine ⟨?_, q.l1, by rw [List.length_append, List.length_append, r.l2, q.l2], fun k i e => ?_⟩
  · rw [List.map_append, List.map_append, ← List.append_assoc, ← List.append_assoc]
    exact b.swap q.l1 (by rw [List.length_map, List.length_map]; exact q.l2)
  · by_cases hk : k < rs.length
    · rw [List.getElem?_append_left hk] at e
      rw [List.getElem?_append_left (by rw [r.l2]; exact hk)]
      exact r.top k i e
    · rw [List.getElem?_append_right (by omega)] at e
      rw [List.getElem?_append_right (by rw [r.l2]; omega), r.l2]
      exact q.top _ i e
/-- a thing looked at: its own items stand in Z -/
def RpV (K : PySem.W.Frag) (Z H : Hp) (v : V) (d : D) : Prop :=
  Rp K Z v d ∨ (∃ p vs xs, v = .ref p ∧ d = .list xs ∧ H p = some (.lst vs) ∧ vs.length ≤ sizeLine ∧ RpAll K Z vs xs) ∨ ∃ p kvs, v = .ref p ∧ d = .dict kvs ∧ DcAt K Z H p kvs
theorem RpV.rp {v : V} {d : D} (r : RpV K Z H v d) (e : Same Z H) : Rp K H v d := by
  rcases r with r | ⟨p, vs, xs, rfl, rfl, h, z, a⟩ | ⟨p, kvs, rfl, rfl, h⟩
  · exact r.same e
  · exact .lst (.inl h) z (a.same e)
  · exact h.rp e
theorem RpV.list {v : V} {xs : List D} (r : RpV K Z H v (.list xs)) (e : Same Z H) : ∃ p vs, v = .ref p ∧ Rd H p (.lst vs) ∧ vs.length ≤ sizeLine ∧ RpAll K Z vs xs := by
  rcases r with r | ⟨p, vs, xs', rfl, e2, h, z, a⟩ | ⟨p, kvs, rfl, e2, h⟩
  · cases r with
    | lst h z a => exact ⟨_, _, rfl, same_rd e h, z, a⟩
  · cases e2; exact ⟨p, vs, rfl, .inl h, z, a⟩
  · cases e2
theorem RpV.tuple {v : V} {xs : List D} (r : RpV K Z H v (.tuple xs)) (e : Same Z H) : ∃ p vs, v = .ref p ∧ SqT K H p vs ∧ vs.length ≤ sizeLine ∧ RpAll K Z vs xs := by
  rcases r with r | ⟨p, vs, xs', rfl, e2, h, z, a⟩ | ⟨p, kvs, rfl, e2, h⟩
  · cases r with
    | tup h z a => exact ⟨_, _, rfl, tupSq (e _ _ h), z, a⟩
  · cases e2
  · cases e2
theorem keyD_ne (k : Key) : keyD k ≠ .none := by
  cases k <;> exact fun h => nomatch h
theorem RpK.nolit {ks : List (Key × V)} {x : D} {r : List (D × D)} (h : RpK K H ks ((.none, x) :: r)) : False := by
  generalize e : ((PyData.none, x) :: r) = l at h
  cases h with
  | nil => cases e
  | cons _ _ =>
    injection e with e1 _
    injection e1 with e2 _
    exact keyD_ne _ e2.symm
theorem RpT.nolit {ks : List (List Key × V)} {x : D} {r : List (D × D)} (h : RpT K H ks ((.none, x) :: r)) : False := by
  generalize e : ((PyData.none, x) :: r) = l at h
  cases h with
  | nil => cases e
  | cons _ _ =>
    injection e with e1 _
    injection e1 with e2 _
    cases e2
theorem RpV.lit {v : V} {xs : List D} (r : RpV K Z H v (.dict [(.none, .list xs)])) (e : Same Z H) : ∃ (p : Addr) (ns : List Int), v = .ref p ∧ xs = ns.map PyData.int ∧ SqL K H p (ns.map V.int) ∧ ns.length ≤ sizeLine := by
  rcases r with r | ⟨p, vs, xs', rfl, e2, h, z, a⟩ | ⟨p, kvs, rfl, e2, h⟩
  · generalize e0 : (PyData.dict [(.none, .list xs)]) = d at r
    cases r with
    | lit h z =>
      unfold litD at e0
      injection e0 with e1
      injection e1 with e2 _
      injection e2 with _ e3
      injection e3 with e4
      exact ⟨_, _, rfl, e4, e.seq h, z⟩
    | exc h =>
      unfold excD at e0
      injection e0 with e1
      injection e1 with e2 _
      injection e2 with _ e3
      cases e3
    | tf h c d z =>
      unfold tfD at e0
      injection e0 with e1
      injection e1 with e2 _
      injection e2 with _ e3
      cases e3
    | dcK h a => cases e0; exact a.nolit.elim
    | dcT h a => cases e0
    | obj h1 h2 a => cases e0
    | _ => cases e0
  · cases e2
  · cases e2
    rcases h with ⟨ks, e1, r⟩ | ⟨ks, kvs', e0, e1, r⟩
    · exact r.nolit.elim
    · cases e0
theorem RpV.tf {v : V} {xs : List D} (r : RpV K Z H v (.dict [(.none, .tuple xs)])) (e : Same Z H) : ∃ (p : Addr) (ob : Obj) (ns : List Int), v = .ref p ∧ xs = ns.map PyData.int ∧ H p = some (.frz ob (.tup (ns.map V.int))) ∧ ob.cls = .type "tuple" ∧ ob.dict = none ∧ ns.length ≤ sizeLine := by
  rcases r with r | ⟨p, vs, xs', rfl, e2, h, z, a⟩ | ⟨p, kvs, rfl, e2, h⟩
  · generalize e0 : (PyData.dict [(.none, .tuple xs)]) = d at r
    cases r with
    | lit h z =>
      unfold litD at e0
      injection e0 with e1
      injection e1 with e2 _
      injection e2 with _ e3
      cases e3
    | exc h =>
      unfold excD at e0
      injection e0 with e1
      injection e1 with e2 _
      injection e2 with _ e3
      cases e3
    | tf h c d z =>
      unfold tfD at e0
      injection e0 with e1
      injection e1 with e2 _
      injection e2 with _ e3
      injection e3 with e4
      exact ⟨_, _, _, rfl, e4, e _ _ h, c, d, z⟩
    | dcK h a => cases e0; exact a.nolit.elim
    | dcT h a => cases e0
    | obj h1 h2 a => cases e0
    | _ => cases e0
  · cases e2
  · cases e2
    rcases h with ⟨ks, e1, r⟩ | ⟨ks, kvs', e0, e1, r⟩
    · exact r.nolit.elim
    · cases e0
theorem RpV.int {v : V} {i : Int} (r : RpV K Z H v (.int i)) : v = .int i := by
  rcases r with r | ⟨p, vs, xs', rfl, e2, h, z, a⟩ | ⟨p, kvs, rfl, e2, h⟩
  · cases r; rfl
  · cases e2
  · cases e2
theorem RpV.bool {v : V} {i : Bool} (r : RpV K Z H v (.bool i)) : v = .bl i := by
  rcases r with r | ⟨p, vs, xs', rfl, e2, h, z, a⟩ | ⟨p, kvs, rfl, e2, h⟩
  · cases r; rfl
  · cases e2
  · cases e2
theorem RpV.str {v : V} {i : Str} (r : RpV K Z H v (.str i)) : v = .str i := by
  rcases r with r | ⟨p, vs, xs', rfl, e2, h, z, a⟩ | ⟨p, kvs, rfl, e2, h⟩
  · cases r; rfl
  · cases e2
  · cases e2
theorem RpV.non {v : V} (r : RpV K Z H v .none) : v = .non := by
  rcases r with r | ⟨p, vs, xs', rfl, e2, h, z, a⟩ | ⟨p, kvs, rfl, e2, h⟩
  · cases r; rfl
  · cases e2
  · cases e2
theorem SlotAt.view {v : Option V} {w : SV} {F : List Addr} {d : D} (h : SlotAt K Z H v w F) (e : viewS w = some d) : ∃ u, v = some u ∧ RpV K Z H u d := by
  cases w with
  | no => cases e
  | d x => cases e; obtain ⟨_, u, h2, r⟩ := h; exact ⟨u, h2, .inl r⟩
  | l xs => cases e; obtain ⟨p, vs, h1, h2, h3, h4, h5⟩ := h; exact ⟨_, h1, .inr (.inl ⟨p, vs, xs, rfl, rfl, h3, h4, h5⟩)⟩
  | ll xss => cases e
  | dc kvs => cases e; obtain ⟨p, h1, h2, h3⟩ := h; exact ⟨_, h1, .inr (.inr ⟨p, kvs, rfl, rfl, h3⟩)⟩
  | ob c fs => cases e
  | tp ws => cases e
  | lo ws => cases e
theorem Rel.slot (r : Rel K Z Y H σ s) (i : Nat) : ∃ F, SlotAt K Z H (σ.getD i none) (s.getD i .no) F := let ⟨F, o⟩ := r.own; ⟨F i, o.at_ i⟩
theorem RelX.look {vs : List V} {rs : List R} (r : RelX K Z Y H σ s vs rs) {k : Nat} {q : R} {d : D} (hk : rs[k]? = some q) (e : viewR s q = some d) : ∃ v, vs[k]? = some v ∧ RpV K Z H v d := by
  have hlt : k < rs.length := (List.getElem?_eq_some_iff.mp hk).1
  have sl : ∃ F, SlotAt K Z H (vs[k]?) (svR q) F := by
    obtain ⟨F, h⟩ := r.rel.slot (σ.length + k)
    refine ⟨F, ?_⟩
    rw [getD_app_ge (by omega), getD_app_ge (by have := r.l1; omega), ← r.l1, Nat.add_sub_cancel_left] at h
    have e1 : (rs.map svR).getD k .no = svR q := by rw [List.getD_eq_getElem?_getD, List.getElem?_map, hk]; rfl
    have e2 : (vs.map some).getD k none = vs[k]? := by
      rw [List.getD_eq_getElem?_getD, List.getElem?_map]
      cases vs[k]? <;> rfl
    rw [e1, e2] at h
    exact h
  cases q with
  | d x =>
    cases e
    obtain ⟨F, h⟩ := sl
    exact h.view rfl
  | own w =>
    obtain ⟨F, h⟩ := sl
    exact h.view e
  | top i =>
    obtain ⟨_, h1⟩ := r.top k i hk
    obtain ⟨F, h⟩ := r.rel0.slot i
    rw [h1] at h
    exact h.view e
structure NewR (K : PySem.W.Frag) (Z H Z' H' : Hp) (u : V) (r : R) : Prop where
  hh : Same H H'
  hz : Same Z Z'
  zh : Same Z' H'
  old : ∀ a, H a ≠ none → Z' a = Z a
  val : match r with
    | .d x => Rp K Z' u x
    | .own w => ∃ F : List Addr, SlotAt K Z' H' (some u) w F ∧ F.Nodup ∧ ∀ a ∈ F, H a = none ∧ Z' a = none
    | .top _ => False
theorem NewR.d {u : V} {x : D} (e : Same Z H) (h : Rp K Z u x) : NewR K Z H Z H u (.d x) := ⟨Same.refl _, Same.refl _, e, fun _ _ => rfl, h⟩
theorem NewR.tup {p : Addr} {vs : List V} {xs : List D} (e : Same Z H) (hp : H p = none) (z : vs.length ≤ sizeLine) (h : RpAll K Z vs xs) : NewR K Z H (upd Z p (.tup vs)) (upd H p (.tup vs)) (.ref p) (.d (.tuple xs)) :=
  have zp : Z p = none := e.free hp
  ⟨same_upd hp, same_upd zp, fun b x q => by
    by_cases hb : b = p
    · subst hb; rw [upd_same] at q ⊢; exact q
    · rw [upd_ne hb] at q ⊢; exact e b x q, fun a ha => upd_ne fun z => ha (z ▸ hp), .tup upd_same z (h.same (same_upd zp))⟩
theorem NewR.lst {p : Addr} {vs : List V} {xs : List D} (e : Same Z H) (hp : H p = none) (z : vs.length ≤ sizeLine) (h : RpAll K Z vs xs) : NewR K Z H Z (upd H p (.lst vs)) (.ref p) (.own (.l xs)) :=
  ⟨same_upd hp, Same.refl _, e.trans (same_upd hp), fun _ _ => rfl, [p], ⟨p, vs, rfl, rfl, upd_same, z, h⟩, by simp, fun a ha => by
    obtain rfl : a = p := by simpa using ha
    exact ⟨hp, e.free hp⟩⟩
theorem Rel.new (r : Rel K Z Y H σ s) {u : V} {q : R} (n : NewR K Z H Z' H' u q) : RelX K Z' Y H' σ s [u] [q] := by
  cases q with
  | d x => exact .d (r.grow n.hh n.hz n.zh n.old) n.val
  | own w =>
    obtain ⟨F, h1, h2, h3⟩ := n.val
    exact .own r.len (r.push n.hh n.hz n.zh n.old h1 h2 h3)
  | top i => exact n.val.elim
end
structure Lv where
  E : WX
  io : List Nat
  σ0 : St
def Lv.keeps (L : Lv) (σ : St) : Prop := σ.length = L.σ0.length ∧ ∀ k ∈ L.io, σ.getD k none = L.σ0.getD k none
def XOk (X : Cx) (L : Lv) (Z Y : Hp) (Xf : XF) : Prop := ∀ n C Z' H' σ' s', Same Z Z' → L.keeps σ' → Rel X.K Z' Y H' σ' s' → Xf n s' → X.mg n = some (.ref C) → L.E (.ref C) none σ' H'
theorem XOk.mono {X : Cx} {L : Lv} {Z Z1 Y Y1 : Hp} {Xf : XF} (h : XOk X L Z Y Xf) (hz : Same Z Z1) (back : ∀ Z' H' σ' s', Same Z1 Z' → Rel X.K Z' Y1 H' σ' s' → Rel X.K Z' Y H' σ' s') : XOk X L Z1 Y1 Xf :=
  fun n C Z' H' σ' s' hz' k r q m => h n C Z' H' σ' s' (hz.trans hz') k (back Z' H' σ' s' hz' r) q m
theorem XOk.z {X : Cx} {L : Lv} {Z Z1 Y : Hp} {Xf : XF} (h : XOk X L Z Y Xf) (hz : Same Z Z1) : XOk X L Z1 Y Xf := h.mono hz fun _ _ _ _ _ r => r
def liftE (X : Cx) (L : Lv) (fe : FE) : TE := fun σ H Q => ∃ Z Y s Xf Qf, Rel X.K Z Y H σ s ∧ L.keeps σ ∧ XOk X L Z Y Xf ∧ fe Xf s Qf ∧ ∀ v H' Z' r s', Same Z Z' → RelX X.K Z' Y H' σ s' [v] [r] → Qf r s' → Q v H'
def liftT (X : Cx) (L : Lv) (ft : FT) : TT := fun σ H Q => ∃ Z Y s Xf Qf, Rel X.K Z Y H σ s ∧ L.keeps σ ∧ XOk X L Z Y Xf ∧ ft Xf s Qf ∧ ∀ b H' Z' s', Same Z Z' → Rel X.K Z' Y H' σ s' → Qf b s' → Q b H'
def liftA (X : Cx) (L : Lv) (n : Nat) (fa : FA) : TA := fun σ H Q => ∃ Z Y s Xf Qf, Rel X.K Z Y H σ s ∧ L.keeps σ ∧ XOk X L Z Y Xf ∧ fa Xf s Qf ∧ ∀ vs H' Z' rs s', Same Z Z' → RelX X.K Z' Y H' σ s' vs rs → rs.length = n → Qf rs s' → Q vs H'
structure EndsOk (X : Cx) (L : Lv) (Z Y : Hp) (Ef : FEnds) (D : Ends) : Prop where
  nx : ∀ σ' H' Z' s', Same Z Z' → L.keeps σ' → Rel X.K Z' Y H' σ' s' → Ef.nx s' → D.nx σ' H'
  rt : ∀ v σ' H' Z' r s', Same Z Z' → L.keeps σ' → RelX X.K Z' Y H' σ' s' [v] [r] → Ef.rt r s' → D.rt v H'
  bk : ∀ σ' H' Z' s', Same Z Z' → L.keeps σ' → Rel X.K Z' Y H' σ' s' → Ef.bk s' → D.bk σ' H'
  ct : ∀ σ' H' Z' s', Same Z Z' → L.keeps σ' → Rel X.K Z' Y H' σ' s' → Ef.ct s' → D.ct σ' H'
  xx : XOk X L Z Y Ef.xx
theorem EndsOk.z {X : Cx} {L : Lv} {Z Z1 Y : Hp} {Ef : FEnds} {D : Ends} (h : EndsOk X L Z Y Ef D) (hz : Same Z Z1) : EndsOk X L Z1 Y Ef D :=
  ⟨fun σ' H' Z' s' e => h.nx σ' H' Z' s' (hz.trans e), fun v σ' H' Z' r s' e => h.rt v σ' H' Z' r s' (hz.trans e), fun σ' H' Z' s' e => h.bk σ' H' Z' s' (hz.trans e), fun σ' H' Z' s' e => h.ct σ' H' Z' s' (hz.trans e), h.xx.z hz⟩
def liftS (X : Cx) (L : Lv) (fs : FS) : TS := fun D σ H => ∃ Z Y s Ef, Rel X.K Z Y H σ s ∧ L.keeps σ ∧ fs Ef s ∧ EndsOk X L Z Y Ef D
def PF (X : Cx) (L : Lv) (e : Expr) (fe : FE) : Prop := PE X e (liftE X L fe)
def PFT (X : Cx) (L : Lv) (e : Expr) (ft : FT) : Prop := PT X e (liftT X L ft)
def PFW (X : Cx) (L : Lv) (e : Expr) (ft : FT) : Prop := PW X e (liftT X L ft)
def PFA (X : Cx) (L : Lv) (es : List Expr) (fa : FA) : Prop := PA X es (liftA X L es.length fa)
def PFS (X : Cx) (L : Lv) (st : Stmt) (fs : FS) : Prop := PS X st (liftS X L fs)
def PFSs (X : Cx) (L : Lv) (sts : List Stmt) (fs : FS) : Prop := PSs X sts (liftS X L fs)
section
variable {X : Cx} {L : Lv} {e a b c : Expr} {es : List Expr} {fa fb fc : FE} {fr : FA} {pos p : Pos}
theorem PE_imp {t t' : TE} (h : PE X e t) (hi : ∀ σ H Q, t' σ H Q → t σ H Q) : PE X e t' := ⟨fun pins s σ H Q I q => h.run pins s σ H Q I (hi σ H Q q)⟩
theorem PT_imp {t t' : TT} (h : PT X e t) (hi : ∀ σ H Q, t' σ H Q → t σ H Q) : PT X e t' := ⟨fun pins s σ H Q I q => h.run pins s σ H Q I (hi σ H Q q)⟩
theorem PW_imp {t t' : TT} (h : PW X e t) (hi : ∀ σ H Q, t' σ H Q → t σ H Q) : PW X e t' := ⟨fun w pins s σ H Q I q => h.run w pins s σ H Q I (hi σ H Q q)⟩
theorem PA_imp {t t' : TA} (h : PA X es t) (hi : ∀ σ H Q, t' σ H Q → t σ H Q) : PA X es t' := ⟨fun ps pins s σ H Q I q => h.run ps pins s σ H Q I (hi σ H Q q)⟩
theorem PS_imp {st : Stmt} {t t' : TS} (h : PS X st t) (hi : ∀ D σ H, t' D σ H → t D σ H) : PS X st t' := ⟨fun pins s σ H D I q => h.run pins s σ H D I (hi D σ H q)⟩
theorem PSs_imp {st : List Stmt} {t t' : TS} (h : PSs X st t) (hi : ∀ D σ H, t' D σ H → t D σ H) : PSs X st t' := ⟨fun pins s σ H D I q => h.run pins s σ H D I (hi D σ H q)⟩
theorem getD_some {α : Type} {l : List (Option α)} {i : Nat} {v : α} (h : l.getD i none = some v) : l[i]? = some (some v) := by
  rw [List.getD_eq_getElem?_getD] at h
  cases e : l[i]? with
  | none => rw [e] at h; cases h
  | some o => rw [e] at h; rw [show o = some v from h]
theorem getD_lt {α : Type} {l : List (Option α)} {i : Nat} {v : α} (h : l.getD i none = some v) : i < l.length := (List.getElem?_eq_some_iff.mp (getD_some h)).1
theorem pf_var (i : Nat) {x : Str} (hN : X.N[i]? = some x := by rfl) (hv : Vis X.env.scope x := by first | exact Or.inl rfl | exact Or.inr (Or.inl rfl) | exact Or.inr (Or.inr rfl)) (hd : (x == ("__debug__" : Str)) = false := by decide)
    (hcd : (x == ("__classdict__" : Str)) = false := by decide) : PF X L (.Name x pos) (fVar i) := PE_imp (pe_var hN hv hd hcd) fun σ H Q ⟨Z, Y, s, Xf, Qf, r, k, xo, h, q⟩ => by
  obtain ⟨F, sl⟩ := r.slot i
  unfold fVar at h
  generalize hs : s.getD i .no = w at h sl
  have tp : ∀ p : V, σ.getD i none = some p → Qf (.top i) s → ∃ v, σ[i]? = some (some v) ∧ Q v H := fun p e h => ⟨p, getD_some e, q p H Z _ s (Same.refl _) (.tp r (getD_lt e) e) h⟩
  cases w with
  | no => exact h.elim
  | d x =>
    obtain ⟨_, u, h2, rp⟩ := sl
    exact ⟨u, getD_some h2, q u H Z _ s (Same.refl _) (.d r rp) h⟩
  | l xs => obtain ⟨p, vs, h1, _⟩ := sl; exact tp _ h1 h
  | ll xs => obtain ⟨p, vs, h1, _⟩ := sl; exact tp _ h1 h
  | dc xs => obtain ⟨p, h1, _⟩ := sl; exact tp _ h1 h
  | ob c fs => obtain ⟨p, dx, vs, G, h1, _⟩ := sl; exact tp _ h1 h
  | tp ws => obtain ⟨p, vs, h1, _⟩ := sl; exact tp _ h1 h
  | lo ws => obtain ⟨p, vs, G, h1, _⟩ := sl; exact tp _ h1 h
theorem pf_C {v : V} {x : D} (h : PE X e (tC v)) (r : ∀ Z, Rp X.K Z v x) : PF X L e (fC x) := PE_imp h fun σ H Q ⟨Z, Y, s, Xf, Qf, rl, k, xo, h, q⟩ => q v H Z _ s (Same.refl _) (.d rl (r Z)) h
theorem pf_int {i : Int} {j pos} : PF X L (.Constant (.int i) j pos) (fC (.int i)) := pf_C pe_int fun _ => .int i
theorem pf_bl {i : Bool} {j pos} : PF X L (.Constant (.bool i) j pos) (fC (.bool i)) := pf_C pe_bl fun _ => .bl i
theorem pf_non {j pos} : PF X L (.Constant .none j pos) (fC .none) := pf_C pe_non fun _ => .non
theorem pf_str {i : Str} {j pos} : PF X L (.Constant (.str i) j pos) (fC (.str i)) := pf_C pe_str fun _ => .str i
theorem pf_nil : PFA X L [] fNil := PA_imp pa_nil fun σ H Q ⟨Z, Y, s, Xf, Qf, r, k, xo, h, q⟩ => q [] H Z [] s (Same.refl _) (.nil r) rfl h
theorem pf_cons (ha : PF X L e fa) (hr : PFA X L es fr) (hs : starEach (e :: es) X.env = (false, eval e X.env) :: starEach es X.env := by rfl) : PFA X L (e :: es) (fCons fa fr) :=
  PA_imp (pa_cons ha hr hs) fun σ H Q ⟨Z, Y, s, Xf, Qf, r, k, xo, h, q⟩ => by
  refine ⟨Z, Y, s, Xf, _, r, k, xo, h, fun v H1 Z1 r1 s1 hz rx h1 => ?_⟩
  obtain ⟨Y', hy, rl, bk, fw⟩ := rx.frame
  refine ⟨Z1, Y', s1, Xf, _, rl, k, (xo.z hz).mono (Same.refl _) bk, h1, fun vs H2 Z2 rs s2 hz2 rx2 hn h2 => ?_⟩
  exact q (v :: vs) H2 Z2 (r1 :: rs) s2 (hz.trans hz2) (fw Z2 H2 s2 vs rs hz2 rx2) (by rw [List.length_cons, hn]; rfl) h2
theorem frz_ok {K : PySem.W.Frag} {Z Y H : Hp} {σ : St} {s : S} {us vs : List V} {ds : List D} {r : R} {rs : List R} {v : V} {k : D → S → Prop} (rx : RelX K Z Y H σ s (us ++ v :: vs) (ds.map R.d ++ r :: rs)) (hl : us.length = ds.length) (h : frz r s k) :
    ∃ Z' d s', Same Z Z' ∧ RelX K Z' Y H σ s' (us ++ v :: vs) (ds.map R.d ++ .d d :: rs) ∧ k d s' := by
  have hlu : (us.map some).length = (ds.map R.d).length := by rw [List.length_map, List.length_map, hl]
  have ix : ∀ (q : R), (ds.map R.d ++ q :: rs)[us.length]? = some q := fun q => by
    rw [List.getElem?_append_right (by rw [List.length_map, hl]; exact Nat.le_refl _), List.length_map, hl, Nat.sub_self]; rfl
  have iv : (us ++ v :: vs)[us.length]? = some v := by
    rw [List.getElem?_append_right (Nat.le_refl _), Nat.sub_self]; rfl
  have topsD : ∀ d σ', Tops σ (us ++ v :: vs) (ds.map R.d ++ r :: rs) → σ' = σ → Tops σ' (us ++ v :: vs) (ds.map R.d ++ .d d :: rs) := fun d σ' t e k i hk => by
    subst e
    by_cases hk0 : k = us.length
    · subst hk0
      rw [ix] at hk; cases hk
    · have : (ds.map R.d ++ r :: rs)[k]? = (ds.map R.d ++ .d d :: rs)[k]? := by
        by_cases hlt : k < us.length
        · rw [List.getElem?_append_left (by rw [List.length_map]; omega), List.getElem?_append_left (by rw [List.length_map]; omega)]
        · rw [List.getElem?_append_right (by rw [List.length_map]; omega), List.getElem?_append_right (by rw [List.length_map]; omega), List.length_map]
          have : k - ds.length = (k - ds.length - 1) + 1 := by omega
          rw [this]; rfl
      exact t k i (this.trans hk)
  cases r with
  | d x => exact ⟨Z, x, s, Same.refl _, rx, h⟩
  | own w =>
    unfold frz at h
    dsimp only at h
    cases e : asD w with
    | none => rw [e] at h; exact h.elim
    | some x =>
      rw [e] at h
      have sl : (s ++ (ds.map R.d ++ .own w :: rs).map svR).getD (s.length + us.length) .no = w := by
        rw [getD_app_ge (by omega), Nat.add_sub_cancel_left, List.getD_eq_getElem?_getD, List.getElem?_map, ix]; rfl
      obtain ⟨Z', hz, rl⟩ := rx.rel.freeze (i := s.length + us.length) (x := x) (by rw [sl]; exact e)
      refine ⟨Z', x, s, hz, ⟨?_, rx.l1, ?_, topsD x σ rx.top rfl⟩, h⟩
      · have : (s ++ (ds.map R.d ++ .own w :: rs).map svR).set (s.length + us.length) (.d x) = s ++ (ds.map R.d ++ .d x :: rs).map svR := by
          rw [List.set_append_right _ _ (by omega), Nat.add_sub_cancel_left, List.map_append, List.map_append, List.set_append_right _ _ (by simp [hl]), List.length_map, List.length_map, hl, Nat.sub_self]
          rfl
        rw [this] at rl
        exact rl
      · have := rx.l2
        simp only [List.length_append, List.length_cons] at this ⊢
        exact this
  | top i =>
    unfold frz at h
    dsimp only at h
    cases e : asD (s.getD i .no) with
    | none => rw [e] at h; exact h.elim
    | some x =>
      rw [e] at h
      obtain ⟨hi, hv⟩ := rx.top us.length i (ix _)
      rw [iv] at hv
      have his : i < s.length := by rw [← rx.l1]; exact hi
      obtain ⟨Z', hz, rl⟩ := rx.rel.freeze (i := i) (x := x) (by rw [getD_app_lt his]; exact e)
      rw [List.set_append_left _ _ his] at rl
      refine ⟨Z', x, s.set i (.d x), hz, ⟨?_, by rw [List.length_set]; exact rx.l1, ?_, topsD x σ rx.top rfl⟩, h⟩
      · have rpx : Rp K Z' v x := by
          obtain ⟨F, q⟩ := rl.slot i
          rw [getD_app_lt (by omega), getD_app_lt (by rw [List.length_set]; exact his), getD_set_self his, hv] at q
          obtain ⟨_, u, e1, rp⟩ := q
          cases e1
          exact rp
        have hlen : ((s.set i (.d x)) ++ (ds.map R.d ++ .top i :: rs).map svR).length = ((s.set i (.d x)) ++ (ds.map R.d ++ .d x :: rs).map svR).length := by simp
        refine rl.re (fun k => if k = s.length + us.length then none else some k) (by have := rl.len; rw [hlen] at this; exact this) (fun k => ?_) (fun k k' j h h' => ?_)
        · by_cases hk : k = s.length + us.length
          · simp only [if_pos hk]
            refine .inr ⟨x, v, ?_, ?_, rpx⟩
            · rw [hk, getD_app_ge (by rw [List.length_set]; omega), List.length_set, Nat.add_sub_cancel_left, List.getD_eq_getElem?_getD, List.getElem?_map, ix]; rfl
            · rw [hk, getD_app_ge (by have := rx.l1; omega), rx.l1, Nat.add_sub_cancel_left, List.getD_eq_getElem?_getD, List.getElem?_map, iv]; rfl
          · simp only [if_neg hk]
            refine ⟨?_, trivial⟩
            by_cases hlt : k < s.length
            · rw [getD_app_lt (by rw [List.length_set]; exact hlt), getD_app_lt (by rw [List.length_set]; exact hlt)]
            · rw [getD_app_ge (by rw [List.length_set]; omega), getD_app_ge (by rw [List.length_set]; omega), List.length_set, List.map_append, List.map_append]
              by_cases hlt2 : k - s.length < us.length
              · rw [getD_app_lt (by simp; omega), getD_app_lt (by simp; omega)]
              · rw [getD_app_ge (by simp; omega), getD_app_ge (by simp; omega)]
                have : k - s.length - (List.map svR (ds.map R.d)).length = (k - s.length - (List.map svR (ds.map R.d)).length - 1) + 1 := by simp; omega
                rw [this]
                rfl
        · by_cases e1 : k = s.length + us.length
          · rw [if_pos e1] at h; cases h
          · by_cases e2 : k' = s.length + us.length
            · rw [if_pos e2] at h'; cases h'
            · rw [if_neg e1] at h; rw [if_neg e2] at h'; cases h; cases h'; rfl
      · have := rx.l2
        simp only [List.length_append, List.length_cons] at this ⊢
        exact this
theorem frzAll_ok {K : PySem.W.Frag} {Y H : Hp} {σ : St} : ∀ {rs : List R} {vs : List V} {us : List V} {ds : List D} {Z : Hp} {s : S} {k : List D → S → Prop}, RelX K Z Y H σ s (us ++ vs) (ds.map R.d ++ rs) → us.length = ds.length → frzAll rs s k →
    ∃ Z' es s', Same Z Z' ∧ RelX K Z' Y H σ s' (us ++ vs) ((ds ++ es).map R.d) ∧ k es s'
  | [], vs, us, ds, Z, s, k, rx, hl, h => by
    refine ⟨Z, [], s, Same.refl _, ?_, h⟩
    simpa using rx
  | r :: rs, [], us, ds, Z, s, k, rx, hl, h => by
    have := rx.l2
    simp at this
    omega
  | r :: rs, v :: vs, us, ds, Z, s, k, rx, hl, h => by
    obtain ⟨Z1, d, s1, hz, rx1, h1⟩ := frz_ok rx hl h
    have e1 : us ++ v :: vs = (us ++ [v]) ++ vs := by simp
    have e2 : ds.map R.d ++ .d d :: rs = (ds ++ [d]).map R.d ++ rs := by simp
    rw [e1, e2] at rx1
    obtain ⟨Z2, es, s2, hz2, rx2, h2⟩ := frzAll_ok rx1 (by simp [hl]) h1
    refine ⟨Z2, d :: es, s2, hz.trans hz2, ?_, h2⟩
    rw [e1]
    simpa using rx2
theorem RelX.rps {K : PySem.W.Frag} {Z Y H : Hp} {σ : St} {s : S} : ∀ {vs : List V} {ds : List D}, RelX K Z Y H σ s vs (ds.map R.d) → RpAll K Z vs ds := by
  intro vs ds r
  have hl := r.l2
  rw [List.length_map] at hl
  have at_ : ∀ i v d, vs[i]? = some v → ds[i]? = some d → Rp K Z v d := fun i v d h1 h2 => by
    obtain ⟨F, q⟩ := r.rel.slot (σ.length + i)
    rw [getD_app_ge (by omega), getD_app_ge (by have := r.l1; omega), ← r.l1, Nat.add_sub_cancel_left, List.getD_eq_getElem?_getD, List.getD_eq_getElem?_getD, List.getElem?_map, List.getElem?_map, List.getElem?_map, h1, h2] at q
    obtain ⟨_, u, e1, rp⟩ := q
    cases e1
    exact rp
  clear r
  induction vs generalizing ds with
  | nil =>
    cases ds with
    | nil => exact .nil
    | cons d ds => simp at hl
  | cons v vs ih =>
    cases ds with
    | nil => simp at hl
    | cons d ds => exact .cons (at_ 0 v d rfl rfl) (ih (by simpa using hl) fun i v' d' h1 h2 => at_ (i + 1) v' d' h1 h2)
theorem pf_tup {x1} (ha : PFA X L es fr) (hn : es.length ≤ sizeLine := by show _ ≤ 16777216; decide) : PF X L (.Tuple es x1 pos) (fTup fr) := PE_imp (pe_tup ha) fun σ H Q ⟨Z, Y, s, Xf, Qf, r, k, xo, h, q⟩ => by
  refine ⟨Z, Y, s, Xf, _, r, k, xo, h, fun vs H1 Z1 rs s1 hz rx hl h1 => ?_⟩
  refine ⟨by rw [rx.l2, hl]; exact hn, fun p hp => ?_⟩
  obtain ⟨Z2, ds, s2, hz2, rx2, h2⟩ := frzAll_ok (us := []) (ds := []) rx rfl h1
  have n : NewR X.K Z2 H1 (upd Z2 p (.tup vs)) (upd H1 p (.tup vs)) (.ref p) (.d (.tuple ds)) := .tup rx2.rel0.zh hp (by rw [rx.l2, hl]; exact hn) rx2.rps
  exact q (.ref p) _ _ _ s2 ((hz.trans hz2).trans n.hz) (rx2.rel0.new n) h2
theorem pf_lst (ha : PFA X L es fr) (hn : es.length ≤ sizeLine := by show _ ≤ 16777216; decide) : PF X L (.List es pos) (fLst fr) := PE_imp (pe_lst ha) fun σ H Q ⟨Z, Y, s, Xf, Qf, r, k, xo, h, q⟩ => by
  refine ⟨Z, Y, s, Xf, _, r, k, xo, h, fun vs H1 Z1 rs s1 hz rx hl h1 => ?_⟩
  refine ⟨by rw [rx.l2, hl]; exact hn, fun p hp => ?_⟩
  obtain ⟨Z2, ds, s2, hz2, rx2, h2⟩ := frzAll_ok (us := []) (ds := []) rx rfl h1
  have n : NewR X.K Z2 H1 Z2 (upd H1 p (.lst vs)) (.ref p) (.own (.l ds)) := .lst rx2.rel0.zh hp (by rw [rx.l2, hl]; exact hn) rx2.rps
  exact q (.ref p) _ _ _ s2 ((hz.trans hz2).trans n.hz) (rx2.rel0.new n) h2
def rF2 (K : PySem.W.Frag) (g : V2) : R2 := fun x y H Q => ∃ Z d e Qf, Same Z H ∧ RpV K Z H x d ∧ RpV K Z H y e ∧ g d e Qf ∧ ∀ u H' Z' r, NewR K Z H Z' H' u r → Qf r → Q u H'
def rF1 (K : PySem.W.Frag) (g : V1) : V → Hp → VK → Prop := fun x H Q => ∃ Z d Qf, Same Z H ∧ RpV K Z H x d ∧ g d Qf ∧ ∀ u H' Z' r, NewR K Z H Z' H' u r → Qf r → Q u H'
theorem look_ok {s : S} {r : R} {k : D → Prop} (h : look s r k) : ∃ d, viewR s r = some d ∧ k d := by
  unfold look at h
  cases e : viewR s r with
  | none => rw [e] at h; exact h.elim
  | some d => rw [e] at h; exact ⟨d, rfl, h⟩
theorem fOp_ok {g : V2} {σ : St} {H : Hp} {Q : VK} (h : liftE X L (fOp g fa fb) σ H Q) : tOp (rF2 X.K g) (liftE X L fa) (liftE X L fb) σ H Q := by
  obtain ⟨Z, Y, s, Xf, Qf, r, k, xo, h, q⟩ := h
  refine ⟨Z, Y, s, Xf, _, r, k, xo, h, fun v H1 Z1 r1 s1 hz rx h1 => ?_⟩
  obtain ⟨Y', hy, rl, bk, fw⟩ := rx.frame
  refine ⟨Z1, Y', s1, Xf, _, rl, k, (xo.z hz).mono (Same.refl _) bk, h1, fun w H2 Z2 r2 s2 hz2 rx2 h2 => ?_⟩
  have rx3 := fw Z2 H2 s2 [w] [r2] hz2 rx2
  obtain ⟨d, e1, h3⟩ := look_ok h2
  obtain ⟨e, e2, h4⟩ := look_ok h3
  obtain ⟨v', ev, rv⟩ := rx3.look (k := 0) rfl e1
  obtain ⟨w', ew, rw'⟩ := rx3.look (k := 1) rfl e2
  cases ev; cases ew
  exact ⟨Z2, d, e, _, rx3.rel0.zh, rv, rw', h4, fun u H' Z' r n hq => q u H' Z' r s2 ((hz.trans hz2).trans n.hz) (rx3.rel0.new n) hq⟩
theorem pf_op {op : Operator} {g : V2} (ho : OpR X (binaryOp op) (rF2 X.K g)) (ha : PF X L a fa) (hb : PF X L b fb) : PF X L (.BinOp a op b pos) (fOp g fa fb) := PE_imp (pe_op ho ha hb) fun _ _ _ => fOp_ok
theorem pf_cmp {op : CmpOp} {g : V2} (ho : OpR X (compareOp op) (rF2 X.K g)) (ha : PF X L a fa) (hb : PF X L b fb) (hm : behindInMarks op b = false) : PF X L (.Compare a [op] [b] pos) (fOp g fa fb) := PE_imp (pe_cmpR ho ha hb hm) fun _ _ _ => fOp_ok
theorem fUn_ok {g : V1} {σ : St} {H : Hp} {Q : VK} (h : liftE X L (fUn g fa) σ H Q) : tUn (rF1 X.K g) (liftE X L fa) σ H Q := by
  obtain ⟨Z, Y, s, Xf, Qf, r, k, xo, h, q⟩ := h
  refine ⟨Z, Y, s, Xf, _, r, k, xo, h, fun v H1 Z1 r1 s1 hz rx h1 => ?_⟩
  obtain ⟨d, e1, h3⟩ := look_ok h1
  obtain ⟨v', ev, rv⟩ := rx.look (k := 0) rfl e1
  cases ev
  exact ⟨Z1, d, _, rx.rel0.zh, rv, h3, fun u H' Z' r n hq => q u H' Z' r s1 (hz.trans n.hz) (rx.rel0.new n) hq⟩
theorem pf_un {op : UnaryOp} {g : V1} (ho : UnR X (unaryOp op) (rF1 X.K g)) (ha : PF X L a fa) : PF X L (.UnaryOp op a pos) (fUn g fa) := PE_imp (pe_un ho ha) fun _ _ _ => fUn_ok
theorem pf_ix {g : V2} (hr : IxR X (rF2 X.K g)) (ha : PF X L a fa) (hb : PF X L b fb) (hs : PlainIx b := by exact fun _ _ => rfl) : PF X L (.Subscript a b pos) (fOp g fa fb) := PE_imp (pe_ix hr ha hb hs) fun _ _ _ => fOp_ok
end
end Hs
namespace Hs
open PySem PySem.Spec PyProof.Rows L2
section
variable {X : Cx} {L : Lv} {e a b c : Expr} {es : List Expr} {fa fb fc : FE} {ft fu : FT} {fr : FA} {pos p : Pos}
theorem isB_ok {r : R} {k : Bool → Prop} (h : isB r k) : ∃ c, r = .d (.bool c) ∧ k c := by
  cases r with
  | d x =>
    cases x with
    | bool c => exact ⟨c, rfl, h⟩
    | _ => exact h.elim
  | _ => exact h.elim
theorem RelX.vd {K : PySem.W.Frag} {Z Y H : Hp} {σ : St} {s : S} {v : V} {x : D} (r : RelX K Z Y H σ s [v] [.d x]) : Rp K Z v x := by
  have q := RelX.rps (ds := [x]) r
  cases q with
  | cons h _ => exact h
theorem RelX.vb {K : PySem.W.Frag} {Z Y H : Hp} {σ : St} {s : S} {v : V} {c : Bool} (r : RelX K Z Y H σ s [v] [.d (.bool c)]) : v = .bl c := by
  have q := r.vd
  cases q
  rfl
theorem RelX.vi {K : PySem.W.Frag} {Z Y H : Hp} {σ : St} {s : S} {v : V} {c : Int} (r : RelX K Z Y H σ s [v] [.d (.int c)]) : v = .int c := by
  have q := r.vd
  cases q
  rfl
theorem pf_one {op} (h : PF X L a fa) : PF X L (.BoolOp op [a] pos) fa := pe_one h
theorem pf_and {rest : List Expr} (ha : PF X L a fa) (hb : PF X L (.BoolOp .And (b :: rest) pos) fb) : PF X L (.BoolOp .And (a :: b :: rest) pos) (fAndV fa fb) := PE_imp (pe_and ha hb) fun σ H Q ⟨Z, Y, s, Xf, Qf, r, k, xo, h, q⟩ => by
  refine ⟨Z, Y, s, Xf, _, r, k, xo, h, fun v H1 Z1 r1 s1 hz rx h1 => ?_⟩
  obtain ⟨c, rfl, h2⟩ := isB_ok h1
  refine ⟨c, rx.vb, ?_⟩
  cases c with
  | true => exact ⟨Z1, Y, s1, Xf, _, rx.rel0, k, xo.z hz, h2, fun w H2 Z2 r2 s2 hz2 rx2 hq => q w H2 Z2 r2 s2 (hz.trans hz2) rx2 hq⟩
  | false => exact q _ H1 Z1 _ s1 hz (.d rx.rel0 (.bl false)) h2
theorem pf_or {rest : List Expr} (ha : PF X L a fa) (hb : PF X L (.BoolOp .Or (b :: rest) pos) fb) : PF X L (.BoolOp .Or (a :: b :: rest) pos) (fOrV fa fb) := PE_imp (pe_or ha hb) fun σ H Q ⟨Z, Y, s, Xf, Qf, r, k, xo, h, q⟩ => by
  refine ⟨Z, Y, s, Xf, _, r, k, xo, h, fun v H1 Z1 r1 s1 hz rx h1 => ?_⟩
  obtain ⟨c, rfl, h2⟩ := isB_ok h1
  refine ⟨c, rx.vb, ?_⟩
  cases c with
  | false => exact ⟨Z1, Y, s1, Xf, _, rx.rel0, k, xo.z hz, h2, fun w H2 Z2 r2 s2 hz2 rx2 hq => q w H2 Z2 r2 s2 (hz.trans hz2) rx2 hq⟩
  | true => exact q _ H1 Z1 _ s1 hz (.d rx.rel0 (.bl true)) h2
theorem pf_not (ha : PF X L a fa) : PF X L (.UnaryOp .Not a pos) (fNotV fa) := PE_imp (pe_not ha) fun σ H Q ⟨Z, Y, s, Xf, Qf, r, k, xo, h, q⟩ => by
  refine ⟨Z, Y, s, Xf, _, r, k, xo, h, fun v H1 Z1 r1 s1 hz rx h1 => ?_⟩
  obtain ⟨c, rfl, h2⟩ := isB_ok h1
  exact ⟨c, rx.vb, q _ H1 Z1 _ s1 hz (.d rx.rel0 (.bl _)) h2⟩
theorem pft_B (h : PF X L e fa) (he : ∀ whole, isTrue e X.env whole = (do let v ← whole; standAt e.pos; holding [v] (truthy v)) := by intro _; rfl) : PFT X L e (fB fa) := PT_imp (pt_val h he) fun σ H Q ⟨Z, Y, s, Xf, Qf, r, k, xo, h, q⟩ => by
  refine ⟨Z, Y, s, Xf, _, r, k, xo, h, fun v H1 Z1 r1 s1 hz rx h1 => ?_⟩
  obtain ⟨c, rfl, h2⟩ := isB_ok h1
  exact ⟨c, rx.vb, q _ H1 Z1 s1 hz rx.rel0 h2⟩
theorem pft_cmp {op : CmpOp} {g : V2} (ho : OpR X (compareOp op) (rF2 X.K g)) (ha : PF X L a fa) (hb : PF X L b fb) (hm : behindInMarks op b = false) : PFT X L (.Compare a [op] [b] pos) (fB (fOp g fa fb)) := PT_imp (pt_cmpR ho ha hb hm) fun σ H Q ⟨Z, Y, s, Xf, Qf, r, k, xo, h, q⟩ => by
  refine fOp_ok ⟨Z, Y, s, Xf, _, r, k, xo, h, fun v H1 Z1 r1 s1 hz rx h1 => ?_⟩
  obtain ⟨c, rfl, h2⟩ := isB_ok h1
  exact ⟨c, rx.vb, q _ H1 Z1 s1 hz rx.rel0 h2⟩
theorem pfw_and1 (ha : PFT X L a ft) : PFW X L (.BoolOp .And [a] pos) ft := pw_and1 ha
theorem pfw_or1 (ha : PFT X L a ft) : PFW X L (.BoolOp .Or [a] pos) ft := pw_or1 ha
theorem pfw_and {rest : List Expr} (ha : PFT X L a ft) (hb : PFW X L (.BoolOp .And (b :: rest) pos) fu) : PFW X L (.BoolOp .And (a :: b :: rest) pos) (fAnd ft fu) := PW_imp (pw_and ha hb) fun σ H Q ⟨Z, Y, s, Xf, Qf, r, k, xo, h, q⟩ => by
  refine ⟨Z, Y, s, Xf, _, r, k, xo, h, fun d H1 Z1 s1 hz rl h1 => ?_⟩
  cases d with
  | true => exact ⟨Z1, Y, s1, Xf, _, rl, k, xo.z hz, h1, fun w H2 Z2 s2 hz2 rx2 hq => q w H2 Z2 s2 (hz.trans hz2) rx2 hq⟩
  | false => exact q _ H1 Z1 s1 hz rl h1
theorem pfw_or {rest : List Expr} (ha : PFT X L a ft) (hb : PFW X L (.BoolOp .Or (b :: rest) pos) fu) : PFW X L (.BoolOp .Or (a :: b :: rest) pos) (fOr ft fu) := PW_imp (pw_or ha hb) fun σ H Q ⟨Z, Y, s, Xf, Qf, r, k, xo, h, q⟩ => by
  refine ⟨Z, Y, s, Xf, _, r, k, xo, h, fun d H1 Z1 s1 hz rl h1 => ?_⟩
  cases d with
  | false => exact ⟨Z1, Y, s1, Xf, _, rl, k, xo.z hz, h1, fun w H2 Z2 s2 hz2 rx2 hq => q w H2 Z2 s2 (hz.trans hz2) rx2 hq⟩
  | true => exact q _ H1 Z1 s1 hz rl h1
theorem pft_W (h : PFW X L e ft) : PFT X L e ft := PW.pt h
theorem pft_not (ha : PFT X L a ft) : PFT X L (.UnaryOp .Not a pos) (fNot ft) := PT_imp (pt_not ha) fun σ H Q ⟨Z, Y, s, Xf, Qf, r, k, xo, h, q⟩ =>
  ⟨Z, Y, s, Xf, _, r, k, xo, h, fun d H1 Z1 s1 hz rl h1 => q _ H1 Z1 s1 hz rl h1⟩
theorem RelX.app2 {K : PySem.W.Frag} {Z Y H : Hp} {σ : St} {s : S} {v w : V} {r q : R} (x : RelX K Z Y H σ s [v, w] [r, q]) : RelX K Z Y H σ s [w] [q] := by
  refine ⟨?_, x.l1, rfl, fun k i h => ?_⟩
  · refine x.rel.re (fun k => if k < σ.length then some k else if k = σ.length then some (k + 1) else none) (by have := x.l1; simp [this]) (fun k => ?_) (fun k k' j h h' => ?_)
    · have hl := x.l1
      by_cases h1 : k < σ.length
      · simp only [if_pos h1]
        exact ⟨by rw [getD_app_lt (by omega), getD_app_lt (by omega)], by rw [getD_app_lt h1, getD_app_lt h1]⟩
      · simp only [if_neg h1]
        by_cases h2 : k = σ.length
        · simp only [if_pos h2]
          subst h2
          refine ⟨?_, ?_⟩
          · rw [getD_app_ge (by omega), getD_app_ge (by omega)]
            have e1 : σ.length - s.length = 0 := by omega
            have e2 : σ.length + 1 - s.length = 1 := by omega
            rw [e1, e2]; rfl
          · rw [getD_app_ge (Nat.le_refl _), getD_app_ge (Nat.le_succ _)]
            have e1 : σ.length - σ.length = 0 := by omega
            have e2 : σ.length + 1 - σ.length = 1 := by omega
            rw [e1, e2]; rfl
        · simp only [if_neg h2]
          exact .inl (getD_out (by simp; omega))
    · by_cases a1 : k < σ.length
      · rw [if_pos a1] at h
        by_cases b1 : k' < σ.length
        · rw [if_pos b1] at h'; cases h; cases h'; rfl
        · rw [if_neg b1] at h'
          by_cases b2 : k' = σ.length
          · rw [if_pos b2] at h'; cases h; cases h'; omega
          · rw [if_neg b2] at h'; cases h'
      · rw [if_neg a1] at h
        by_cases a2 : k = σ.length
        · rw [if_pos a2] at h
          by_cases b1 : k' < σ.length
          · rw [if_pos b1] at h'; cases h; cases h'; omega
          · rw [if_neg b1] at h'
            by_cases b2 : k' = σ.length
            · omega
            · rw [if_neg b2] at h'; cases h'
        · rw [if_neg a2] at h; cases h
  · cases k with
    | zero => exact x.top 1 i h
    | succ k => simp at h
theorem fChain_ok {g g' : V2} {σ : St} {H : Hp} {Q : VK} (h : liftE X L (fChain g g' fa fb fc) σ H Q) : tChain (rF2 X.K g) (rF2 X.K g') (liftE X L fa) (liftE X L fb) (liftE X L fc) σ H Q := by
  obtain ⟨Z, Y, s, Xf, Qf, r, k, xo, h, q⟩ := h
  refine ⟨Z, Y, s, Xf, _, r, k, xo, h, fun v H1 Z1 r1 s1 hz rx h1 => ?_⟩
  obtain ⟨Y', hy, rl, bk, fw⟩ := rx.frame
  refine ⟨Z1, Y', s1, Xf, _, rl, k, (xo.z hz).mono (Same.refl _) bk, h1, fun w H2 Z2 r2 s2 hz2 rx2 h2 => ?_⟩
  have rx3 := fw Z2 H2 s2 [w] [r2] hz2 rx2
  obtain ⟨d, e1, h3⟩ := look_ok h2
  obtain ⟨e, e2, h4⟩ := look_ok h3
  obtain ⟨v', ev, rv⟩ := rx3.look (k := 0) rfl e1
  obtain ⟨w', ew, rw'⟩ := rx3.look (k := 1) rfl e2
  cases ev; cases ew
  refine ⟨Z2, d, e, _, rx3.rel0.zh, rv, rw', h4, fun u H3 Z3 r3 n hq => ?_⟩
  obtain ⟨c, rfl, h5⟩ := isB_ok hq
  have uv : u = .bl c := by have := n.val; cases this; rfl
  refine ⟨c, uv, ?_⟩
  have rx4 : RelX X.K Z3 Y H3 σ s2 [w] [r2] := by
    have y := rx3.app2
    exact ⟨y.rel.grow n.hh n.hz n.zh n.old, y.l1, y.l2, y.top⟩
  cases c with
  | false => exact q _ H3 Z3 _ s2 ((hz.trans hz2).trans n.hz) (.d rx4.rel0 (.bl false)) h5
  | true =>
    obtain ⟨Y2, hy2, rl2, bk2, fw2⟩ := rx4.frame
    refine ⟨Z3, Y2, s2, Xf, _, rl2, k, (xo.z ((hz.trans hz2).trans n.hz)).mono (Same.refl _) bk2, h5, fun x H4 Z4 r4 s4 hz4 rx5 h6 => ?_⟩
    have rx6 := fw2 Z4 H4 s4 [x] [r4] hz4 rx5
    obtain ⟨d', e3, h7⟩ := look_ok h6
    obtain ⟨e', e4, h8⟩ := look_ok h7
    obtain ⟨v3, ev3, rv3⟩ := rx6.look (k := 0) rfl e3
    obtain ⟨w3, ew3, rw3⟩ := rx6.look (k := 1) rfl e4
    cases ev3; cases ew3
    exact ⟨Z4, d', e', _, rx6.rel0.zh, rv3, rw3, h8, fun u5 H5 Z5 r5 n5 hq5 => q u5 H5 Z5 r5 s4 ((((hz.trans hz2).trans n.hz).trans hz4).trans n5.hz) (rx6.rel0.new n5) hq5⟩
theorem pf_chain {op op' : CmpOp} {g g' : V2} (ho : OpR X (compareOp op) (rF2 X.K g)) (ho' : OpR X (compareOp op') (rF2 X.K g')) (ha : PF X L a fa) (hb : PF X L b fb) (hc : PF X L c fc)
    (hm : lastMarks [op, op'] [b, c] = false := by with_unfolding_all rfl) : PF X L (.Compare a [op, op'] [b, c] pos) (fChain g g' fa fb fc) := PE_imp (pe_chain ho ho' ha hb hc hm) fun _ _ _ => fChain_ok
variable {st : Stmt} {rest : List Stmt} {f1 f2 : FS}
theorem pfs_nil : PFSs X L [] fNext := PSs_imp pss_nil fun D σ H ⟨Z, Y, s, Ef, r, k, h, eo⟩ => eo.nx σ H Z s (Same.refl _) k r h
theorem pfs_cons (h1 : PFS X L st f1) (h2 : PFSs X L rest f2) : PFSs X L (st :: rest) (fSeq f1 f2) := PSs_imp (pss_cons h1 h2) fun D σ H ⟨Z, Y, s, Ef, r, k, h, eo⟩ =>
  ⟨Z, Y, s, _, r, k, h, ⟨fun σ' H' Z' s' hz k' r' h' => ⟨Z', Y, s', Ef, r', k', h', eo.z hz⟩, eo.rt, eo.bk, eo.ct, eo.xx⟩⟩
theorem pfs_one (h1 : PFS X L st f1) : PFSs X L [st] f1 := pss_one h1
theorem pfs_break : PFS X L (.Break pos) fBreak := PS_imp ps_break fun D σ H ⟨Z, Y, s, Ef, r, k, h, eo⟩ => eo.bk σ H Z s (Same.refl _) k r h
theorem pfs_expr (he : PF X L e fa) (hs : swapsWith e none pos.line X.env = pure false := by rfl) : PFS X L (.Expr e pos) (fDrop fa) := PS_imp (ps_expr he hs) fun D σ H ⟨Z, Y, s, Ef, r, k, h, eo⟩ =>
  ⟨Z, Y, s, Ef.xx, _, r, k, eo.xx, h, fun v H1 Z1 r1 s1 hz rx h1 => eo.nx σ H1 Z1 s1 hz k rx.rel0 h1⟩
theorem pfs_ret (he : PF X L e fa) : PFS X L (.Return (some e) pos) (fRet fa) := PS_imp (ps_ret he) fun D σ H ⟨Z, Y, s, Ef, r, k, h, eo⟩ =>
  ⟨Z, Y, s, Ef.xx, _, r, k, eo.xx, h, fun v H1 Z1 r1 s1 hz rx h1 => eo.rt v σ H1 Z1 r1 s1 hz k rx h1⟩
theorem pfs_if {sa sb : List Stmt} (hc : PFT X L c ft) (ha : PFSs X L sa f1) (hb : PFSs X L sb f2) : PFS X L (.If c sa sb pos) (fIfS ft f1 f2) := PS_imp (ps_if hc ha hb) fun D σ H ⟨Z, Y, s, Ef, r, k, h, eo⟩ => by
  refine ⟨Z, Y, s, Ef.xx, _, r, k, eo.xx, h, fun d H1 Z1 s1 hz rl h1 => ?_⟩
  cases d with
  | true => exact ⟨Z1, Y, s1, Ef, rl, k, h1, eo.z hz⟩
  | false => exact ⟨Z1, Y, s1, Ef, rl, k, h1, eo.z hz⟩
theorem Lv.keeps_set {σ : St} {i : Nat} {v : Option V} (k : L.keeps σ) (hi : i ∉ L.io) : L.keeps (σ.set i v) := ⟨by rw [List.length_set]; exact k.1, fun j hj => by
  rw [getD_set_ne (fun z : i = j => hi (by rw [z]; exact hj))]
  exact k.2 j hj⟩
/-- the last slot put into another one -/
theorem Rel.put {K : PySem.W.Frag} {Z Y H : Hp} {σ : St} {s : S} {v : V} {w : SV} (r : Rel K Z Y H (σ ++ [some v]) (s ++ [w])) (hl : σ.length = s.length) (i : Nat) : Rel K Z Y H (σ.set i (some v)) (s.set i w) := by
  by_cases hi : i < σ.length
  · refine r.re (fun k => if k < σ.length then (if k = i then some σ.length else some k) else none) (by simp [hl]) (fun k => ?_) (fun k k' j h h' => ?_)
    · by_cases h1 : k < σ.length
      · simp only [if_pos h1]
        by_cases h2 : k = i
        · subst h2
          simp only [if_pos rfl]
          refine ⟨?_, ?_⟩
          · rw [getD_set_self (by omega), getD_app_ge (by omega), hl, Nat.sub_self]; rfl
          · rw [getD_set_self hi, getD_app_ge (Nat.le_refl _), Nat.sub_self]; rfl
        · simp only [if_neg h2]
          exact ⟨by rw [getD_set_ne (Ne.symm h2), getD_app_lt (by omega)], by rw [getD_set_ne (Ne.symm h2), getD_app_lt h1]⟩
      · simp only [if_neg h1]
        exact .inl (getD_out (by simp; omega))
    · by_cases a1 : k < σ.length
      · rw [if_pos a1] at h
        by_cases b1 : k' < σ.length
        · rw [if_pos b1] at h'
          by_cases a2 : k = i
          · by_cases b2 : k' = i
            · omega
            · rw [if_pos a2] at h; rw [if_neg b2] at h'; cases h; cases h'; omega
          · rw [if_neg a2] at h
            by_cases b2 : k' = i
            · rw [if_pos b2] at h'; cases h; cases h'; omega
            · rw [if_neg b2] at h'; cases h; cases h'; rfl
        · rw [if_neg b1] at h'; cases h'
      · rw [if_neg a1] at h; cases h
  · rw [List.set_eq_of_length_le (by omega), List.set_eq_of_length_le (by omega)]
    exact r.take hl
/-- what has come, stored -/
theorem putR_ok {K : PySem.W.Frag} {Z Y H : Hp} {σ : St} {s : S} {v : V} {r : R} {i : Nat} {k : S → Prop} (rx : RelX K Z Y H σ s [v] [r]) (h : putR i r s k) : ∃ Z' s', Same Z Z' ∧ Rel K Z' Y H (σ.set i (some v)) s' ∧ k s' := by
  cases r with
  | d x => exact ⟨Z, _, Same.refl _, Rel.put rx.rel rx.l1 i, h⟩
  | own w => exact ⟨Z, _, Same.refl _, Rel.put rx.rel rx.l1 i, h⟩
  | top j =>
    unfold putR at h
    dsimp only at h
    cases e : asD (s.getD j .no) with
    | none => rw [e] at h; exact h.elim
    | some x =>
      rw [e] at h
      have h' : frz (.top j) s fun d s' => k (s'.set i (.d d)) := by
        unfold frz; dsimp only; rw [e]; exact h
      obtain ⟨Z', d, s', hz, rx', h2⟩ := frz_ok (us := []) (ds := []) (vs := []) (rs := []) rx rfl h'
      exact ⟨Z', _, hz, Rel.put rx'.rel rx'.l1 i, h2⟩
theorem pfs_set {i : Nat} {x : Str} {pos' : Pos} (hN : X.N.Nodup) (he : PF X L e fa) (hi : X.N[i]? = some x := by rfl) (hx : Loc X.env.scope x := by first | exact Or.inl rfl | exact Or.inr rfl) (hio : i ∉ L.io := by exact of_decide_eq_true rfl) (hs : swapsWith e (some (.Name x pos')) pos.line X.env = pure false := by rfl) (hf : X.fn x = true ∨ X.env.scope.names.lookup x = some .local := by first | exact .inl rfl | exact .inr rfl) :
    PFS X L (.Assign [.Name x pos'] e pos) (fAsg i fa) := PS_imp (ps_set hN hi hx he hs hf) fun D σ H ⟨Z, Y, s, Ef, r, k, h, eo⟩ => by
  refine ⟨Z, Y, s, Ef.xx, _, r, k, eo.xx, h, fun v H1 Z1 r1 s1 hz rx h1 => ?_⟩
  obtain ⟨Z2, s2, hz2, rl2, h2⟩ := putR_ok rx h1
  exact eo.nx _ H1 Z2 s2 (hz.trans hz2) (L.keeps_set k hio) rl2 h2
/-- only the slots ws differ -/
def Only (ws : List Nat) (σ σ' : St) : Prop := σ'.length = σ.length ∧ ∀ j : Nat, j ∉ ws → σ'[j]? = σ[j]?
theorem Only.refl {ws : List Nat} {σ : St} : Only ws σ σ := ⟨rfl, fun _ _ => rfl⟩
theorem Only.trans {ws : List Nat} {σ σ1 σ2 : St} (a : Only ws σ σ1) (b : Only ws σ1 σ2) : Only ws σ σ2 := ⟨b.1.trans a.1, fun j h => (b.2 j h).trans (a.2 j h)⟩
theorem Only.set {ws : List Nat} {σ : St} {i : Nat} {v : Option V} (h : i ∈ ws) : Only ws σ (σ.set i v) := ⟨by simp, fun j hj => List.getElem?_set_ne (fun z : i = j => hj (z ▸ h))⟩
def liftG (X : Cx) (L : Lv) (ws : List Nat) (fg : FG) : TG := fun v σ H Q => ∃ Z Y s d Qf, Rel X.K Z Y H σ s ∧ L.keeps σ ∧ Rp X.K Z v d ∧ fg d s Qf ∧ ∀ σ' s', L.keeps σ' → Only ws σ σ' → Rel X.K Z Y H σ' s' → Qf s' → Q σ' H
def liftGs (X : Cx) (L : Lv) (ws : List Nat) (fg : List D → S → (S → Prop) → Prop) : TGs := fun vs σ H Q => ∃ Z Y s ds Qf, Rel X.K Z Y H σ s ∧ L.keeps σ ∧ RpAll X.K Z vs ds ∧ fg ds s Qf ∧ ∀ σ' s', L.keeps σ' → Only ws σ σ' → Rel X.K Z Y H σ' s' → Qf s' → Q σ' H
def PFG (X : Cx) (L : Lv) (ws : List Nat) (e : Expr) (fg : FG) : Prop := PG X e (liftG X L ws fg)
def PFGs (X : Cx) (L : Lv) (ws : List Nat) (es : List Expr) (fgs : List FG) : Prop := PGs X es (liftGs X L ws (gTp.gTps fgs))
variable {ws : List Nat}
theorem PG_imp {t t' : TG} (h : PG X e t) (hi : ∀ v σ H Q, t' v σ H Q → t v σ H Q) : PG X e t' := ⟨fun pins s σ H v u Q I r q => h.run pins s σ H v u Q I r (hi v σ H Q q)⟩
theorem PGs_imp {t t' : TGs} (h : PGs X es t) (hi : ∀ v σ H Q, t' v σ H Q → t v σ H Q) : PGs X es t' := ⟨fun pins s σ H v u Q I r q => h.run pins s σ H v u Q I r (hi v σ H Q q)⟩
theorem pfg_nm {i : Nat} {x : Str} (hN : X.N.Nodup) (hi : X.N[i]? = some x := by rfl) (hx : Loc X.env.scope x := by first | exact Or.inl rfl | exact Or.inr rfl) (hio : i ∉ L.io := by exact of_decide_eq_true rfl) (hws : i ∈ ws := by decide) (hf : X.fn x = true ∨ X.env.scope.names.lookup x = some .local := by first | exact .inl rfl | exact .inr rfl) : PFG X L ws (.Name x pos) (gNm i) :=
  PG_imp (pg_name hN hi hx hf) fun v σ H Q ⟨Z, Y, s, d, Qf, r, k, rp, h, q⟩ => q _ _ (L.keeps_set k hio) (.set hws) (Rel.put (r.pushD rp) r.len i) h
theorem pfgs_nil : PFGs X L ws [] [] := PGs_imp pgs_nil fun vs σ H Q ⟨Z, Y, s, ds, Qf, r, k, rp, h, q⟩ => by
  cases rp with
  | nil => exact ⟨rfl, q σ s k .refl r h⟩
  | cons _ _ => exact h.elim
theorem pfgs_cons {fg : FG} {fgs : List FG} (h1 : PFG X L ws e fg) (h2 : PFGs X L ws es fgs) (hs : (assignEach (e :: es) X.env).map (·.2) = assign e X.env :: (assignEach es X.env).map (·.2) := by rfl) : PFGs X L ws (e :: es) (fg :: fgs) :=
  PGs_imp (pgs_cons h1 h2 hs) fun vs σ H Q ⟨Z, Y, s, ds, Qf, r, k, rp, h, q⟩ => by
  cases rp with
  | nil => exact h.elim
  | cons rd ra =>
    refine ⟨_, _, rfl, Z, Y, s, _, _, r, k, rd, h, fun σ1 s1 k1 o1 r1 h1 => ?_⟩
    exact ⟨Z, Y, s1, _, Qf, r1, k1, ra, h1, fun σ2 s2 k2 o2 => q σ2 s2 k2 (o1.trans o2)⟩
/-- a tuple's target takes as many things as it has names -/
def TpLen (fgs : List FG) : Prop := ∀ ds s k, gTp.gTps fgs ds s k → ds.length = fgs.length
theorem tp2 {i j : Nat} : TpLen [gNm i, gNm j] := fun ds s k h => by
  match ds, h with
  | [_, _], _ => rfl
  | [], h => exact h.elim
  | [_], h => exact h.elim
  | _ :: _ :: _ :: _, h => exact h.elim
theorem pfg_tup {x1 : Nat} {fgs : List FG} (hc : X.calm = true) (h : PFGs X L ws es fgs) (hn : (assignEach es X.env).length = fgs.length := by rfl) (hst : (assignEach es X.env).findIdx? (·.1) = none := by rfl)
    (hlen : TpLen fgs) : PFG X L ws (.Tuple es x1 pos) (gTp fgs) :=
  PG_imp (pg_tup hc h hn hst) fun v σ H Q ⟨Z, Y, s, d, Qf, r, k, rp, h, q⟩ => by
  cases rp with
  | tup hs hz ra => exact ⟨_, _, rfl, tupSq (r.zh _ _ hs), (by rw [ra.length]; exact hlen _ _ _ h), Z, Y, s, _, Qf, r, k, ra, h, q⟩
  | _ => exact h.elim
/-- a, b = e -/
theorem pfs_unp {tg : Expr} {fg : FG} (he : PF X L e fa) (hg : PFG X L ws tg fg) (hs : swapsWithSole [tg] e pos.line X.env = pure false := by rfl) (hw : swappedStores [tg] e X.env = pure none := by rfl)
    (h1 : (assignEach [tg] X.env).map (·.2) = [assign tg X.env] := by rfl) : PFS X L (.Assign [tg] e pos) (fUnp fg fa) := PS_imp (ps_asg he hg hs hw h1) fun D σ H ⟨Z, Y, s, Ef, r, k, h, eo⟩ => by
  refine ⟨Z, Y, s, Ef.xx, _, r, k, eo.xx, h, fun v H1 Z1 r1 s1 hz rx h1 => ?_⟩
  obtain ⟨Z2, d, s2, hz2, rx2, h2⟩ := frz_ok (us := []) (ds := []) (vs := []) (rs := []) rx rfl h1
  exact ⟨Z2, Y, s2, d, _, rx2.rel0, k, rx2.vd, h2, fun σ' s' k' _ r' h' => eo.nx σ' H1 Z2 s' (hz.trans hz2) k' r' h'⟩
end
end Hs
namespace Hs
open PySem PySem.Spec PyProof.Rows L2
section
variable {X : Cx} {L : Lv} {e a b c : Expr} {es : List Expr} {fa fb fc : FE} {ft fu : FT} {fr : FA} {pos p : Pos} {ws : List Nat}
structure Walks (K : PySem.W.Frag) (Z : Hp) (J : It) (xs : List D) : Prop where
  stop : ∀ i H, Same Z H → xs.length ≤ i → J.stop i H
  go : ∀ i H, Same Z H → i < xs.length → J.go i H
  yld : ∀ (i : Nat) H v H' Zc, Same Z Zc → Same Zc H → i < xs.length → J.yld i H v H' → ∃ d Z', xs[i]? = some d ∧ NewR K Zc H Z' H' v (.d d)
def liftI (X : Cx) (L : Lv) (fi : FI) : TI := fun σ H R => ∃ Z Y s Xf Qf, Rel X.K Z Y H σ s ∧ L.keeps σ ∧ XOk X L Z Y Xf ∧ fi Xf s Qf ∧ ∀ J H' Z' s' xs, Same Z Z' → Rel X.K Z' Y H' σ s' → Walks X.K Z' J xs → Qf xs s' → R J H'
def PFI (X : Cx) (L : Lv) (tg e : Expr) (fi : FI) : Prop := PI X tg e (liftI X L fi)
theorem PI_imp {tg : Expr} {t t' : TI} (h : PI X tg e t) (hi : ∀ σ H R, t' σ H R → t σ H R) : PI X tg e t' := ⟨fun pins s σ H R I q => h.run pins s σ H R I (hi σ H R q)⟩
def iSq (K : PySem.W.Frag) (tl : TE) : TI := fun σ H R => tl σ H fun x H1 => ∃ a, x = .ref a ∧ (((∃ xs, SqL K H1 a xs) ∧ R (Itl K a) H1) ∨ ((∃ xs, SqT K H1 a xs) ∧ R (Itt K a) H1))
theorem pi_sq {tg l : Expr} {tl : TE} (hl : PE X l tl) : PI X tg l (iSq X.K tl) := by
  refine ⟨fun pins s σ H R I h => ?_⟩
  refine thn (hl.run pins s σ H _ I h) fun v s1 ⟨x, H1, I1, r1, q1⟩ => ?_
  obtain ⟨a, e, q⟩ := q1
  subst e
  cases r1
  have one : ∀ {b : Addr}, b ∈ [s1.heap.objs.size] → b = s1.heap.objs.size := fun hb => by simpa using hb
  rcases q with ⟨⟨xs, hq⟩, q⟩ | ⟨⟨xs, hq⟩, q⟩
  · obtain ⟨its, rv, p, hz⟩ := I1.list hq
    refine wpAny_pyIter_list p.isList ?_
    refine ⟨s1.heap.objs.size, [s1.heap.objs.size], _, _, H1, rfl, I1.kept (t' := s1.toks) fun b o e => Heap.get?_push_of_some _ e, turn_list a _, ⟨_, Heap.get?_push_size _ rfl, rfl, rfl⟩, fun b hb => ?_, q⟩
    rw [one hb]
    exact I1.fpOk (Nat.le_refl _) (I1.hok.fresh (Nat.le_refl _))
  · obtain ⟨its, rv, p, hz⟩ := I1.tuple hq
    refine wpAny_pyIter_tuple (show s1.heap.IsTuple a its.toArray from p) ?_
    refine ⟨s1.heap.objs.size, [s1.heap.objs.size], _, _, H1, rfl, I1.kept (t' := s1.toks) fun b o e => Heap.get?_push_of_some _ e, turn_tuple a _, ⟨_, Heap.get?_push_size _ rfl, rfl, rfl⟩, fun b hb => ?_, q⟩
    rw [one hb]
    exact I1.fpOk (Nat.le_refl _) (I1.hok.fresh (Nat.le_refl _))
theorem walks_list {K : PySem.W.Frag} {Z : Hp} {a : Addr} {vs : List V} {xs : List D} (h : SqL K Z a vs) (r : RpAll K Z vs xs) : Walks K Z (Itl K a) xs where
  stop := fun i H e hi => ⟨vs, e.seq h, by rw [r.length]; exact hi⟩
  go := fun i H e hi => ⟨vs, vs[i]'(by rw [r.length]; exact hi), e.seq h, by simp⟩
  yld := fun i H v H' Zc e1 e2 hi ⟨eh, hv⟩ => by
    subst eh
    obtain ⟨d, hd, rd⟩ := r.getV (hv vs ((e1.trans e2).seq h))
    exact ⟨d, Zc, hd, .d e2 (rd.same e1)⟩
theorem walks_tup {K : PySem.W.Frag} {Z : Hp} {a : Addr} {vs : List V} {xs : List D} (h : SqT K Z a vs) (r : RpAll K Z vs xs) : Walks K Z (Itt K a) xs where
  stop := fun i H e hi => ⟨vs, same_sqT e h, by rw [r.length]; exact hi⟩
  go := fun i H e hi => ⟨vs, vs[i]'(by rw [r.length]; exact hi), same_sqT e h, by simp⟩
  yld := fun i H v H' Zc e1 e2 hi ⟨eh, hv⟩ => by
    subst eh
    obtain ⟨d, hd, rd⟩ := r.getV (hv vs (same_sqT (e1.trans e2) h))
    exact ⟨d, Zc, hd, .d e2 (rd.same e1)⟩
theorem rangeD_get {lo : Int} {n i : Nat} (h : i < n) : (rangeD lo n)[i]? = some (.int (lo + (i : Int))) := by
  unfold rangeD
  rw [List.getElem?_map, List.getElem?_range h]; rfl
theorem rangeD_len {lo : Int} {n : Nat} : (rangeD lo n).length = n := by unfold rangeD; rw [List.length_map, List.length_range]
theorem walks_range {K : PySem.W.Frag} {Z : Hp} {lo : Int} {n : Nat} : Walks K Z (Itr lo n) (rangeD lo n) where
  stop := fun i H e hi => by rw [rangeD_len] at hi; exact hi
  go := fun i H e hi => by rw [rangeD_len] at hi; exact hi
  yld := fun i H v H' Zc e1 e2 hi ⟨eh, hv⟩ => by
    subst eh hv
    rw [rangeD_len] at hi
    exact ⟨_, Zc, rangeD_get hi, .d e2 (.int _)⟩
theorem pfi_seq {tg : Expr} (he : PF X L e fa) : PFI X L tg e (iSeq fa) := PI_imp (pi_sq he) fun σ H R ⟨Z, Y, s, Xf, Qf, r, k, xo, h, q⟩ => by
  refine ⟨Z, Y, s, Xf, _, r, k, xo, h, fun v H1 Z1 r1 s1 hz rx h1 => ?_⟩
  obtain ⟨Z2, d, s2, hz2, rx2, h2⟩ := frz_ok (us := []) (ds := []) (vs := []) (rs := []) rx rfl h1
  have rv := rx2.vd
  cases rv with
  | lst hs hl ra => exact ⟨_, rfl, .inl ⟨⟨_, .inl (same_rd rx2.rel0.zh hs)⟩, q _ H1 Z2 s2 _ (hz.trans hz2) rx2.rel0 (walks_list (.inl hs) ra) h2⟩⟩
  | tup hs hl ra => exact ⟨_, rfl, .inr ⟨⟨_, tupSq (rx2.rel0.zh _ _ hs)⟩, q _ H1 Z2 s2 _ (hz.trans hz2) rx2.rel0 (walks_tup (tupSq hs) ra) h2⟩⟩
  | _ => exact h2.elim
theorem pfi_range1 {tg : Expr} (hg : Gl X "range") (hm : X.mg "range" = none) (ha : PFA X L [a] fr) (hs : starEach [a] X.env = [(false, eval a X.env)] := by rfl) : PFI X L tg (.Call (.Name "range" p) [a] [] pos) (iRange1 fr) :=
  PI_imp (pi_range1 hg hm ha hs) fun σ H R ⟨Z, Y, s, Xf, Qf, r, k, xo, h, q⟩ => by
  refine ⟨Z, Y, s, Xf, _, r, k, xo, h, fun vs H1 Z1 rs s1 hz rx hn h1 => ?_⟩
  split at h1
  · rename_i j
    obtain ⟨hj, h2⟩ := h1
    have rv := RelX.rps (ds := [.int j]) rx
    cases rv with
    | cons r1 r2 =>
      cases r1; cases r2
      exact ⟨j, rfl, hj.1, hj.2, q _ H1 Z1 s1 _ hz rx.rel0 walks_range h2⟩
  · exact h1.elim
theorem wipe_get (σ : St) : ∀ (vs : List Nat) (j : Nat), (wipe σ vs).getD j none = if j ∈ vs then none else σ.getD j none
  | [], j => by simp [wipe]
  | v :: vs, j => by
    unfold wipe
    by_cases h : v = j
    · subst h
      simp only [List.mem_cons, true_or, if_true]
      by_cases hv : v < (wipe σ vs).length
      · exact getD_set_self hv
      · exact getD_out (by simpa using hv)
    · rw [getD_set_ne h, wipe_get σ vs j]
      have : (j ∈ v :: vs) ↔ j ∈ vs := by simp [Ne.symm h]
      simp only [this]
theorem wipeS_len : ∀ (vs : List Nat) (s : S), (wipeS s vs).length = s.length
  | [], s => rfl
  | v :: vs, s => by unfold wipeS; rw [wipeS_len vs, List.length_set]
theorem wipeS_get : ∀ (vs : List Nat) (s : S) (j : Nat), (wipeS s vs).getD j .no = if j ∈ vs then .no else s.getD j .no
  | [], s, j => by simp [wipeS]
  | v :: vs, s, j => by
    unfold wipeS
    rw [wipeS_get vs]
    by_cases hj : j ∈ vs
    · rw [if_pos hj, if_pos (List.mem_cons_of_mem _ hj)]
    · rw [if_neg hj]
      by_cases h : v = j
      · subst h
        rw [if_pos List.mem_cons_self]
        by_cases hv : v < s.length
        · exact getD_set_self hv
        · exact getD_out (by simpa using hv)
      · rw [getD_set_ne h, if_neg (by simp [hj, Ne.symm h])]
theorem Rel.wipeS {K : PySem.W.Frag} {Z Y H : Hp} {σ : St} {s : S} (r : Rel K Z Y H σ s) (vs : List Nat) : Rel K Z Y H σ (wipeS s vs) :=
  r.re (fun k => if k ∈ vs then none else some k) (by rw [wipeS_len]; exact r.len) (fun k => by
    by_cases h : k ∈ vs
    · simp only [if_pos h]
      exact .inl (by rw [wipeS_get, if_pos h])
    · simp only [if_neg h]
      exact ⟨by rw [wipeS_get, if_neg h], trivial⟩) (fun k k' j h h' => by
    by_cases a : k ∈ vs
    · rw [if_pos a] at h; cases h
    · by_cases b : k' ∈ vs
      · rw [if_pos b] at h'; cases h'
      · rw [if_neg a] at h; rw [if_neg b] at h'; cases h; cases h'; rfl)
variable {f1 f2 : FS} {wp : List Nat}
theorem pfs_for {tg iter : Expr} {body : List Stmt} {fi : FI} {fg : FG} (hp : PassesOwn (model X.prog X.w) X.A X.env X.xe) (hc : X.calm = true) (hi : PFI X L tg iter fi) (hg : PFG X L ws tg fg) (hb : PFSs X L body f1)
    (hs : ∀ x, foldedSetIterable iter X.env x = pure x := by intro _; rfl) : PFS X L (.For tg iter body [] pos) (fFor fi fg wp f1) := PS_imp (ps_for hp hc hi hg hb hs) fun D σ H ⟨Z, Y, s, Ef, r, k, h, eo⟩ => by
  refine ⟨Z, Y, s, Ef.xx, _, r, k, eo.xx, h, fun J H1 Z1 s1 xs hz rl wk hloop => ?_⟩
  refine ⟨fun i m σ' H' => ∃ Z' s', Same Z1 Z' ∧ Rel X.K Z' Y H' σ' s' ∧ L.keeps σ' ∧ m = xs.length - i ∧ i ≤ xs.length ∧ fLoop fg wp f1 Ef (xs.drop i) s', ⟨xs.length, Z1, _, Same.refl _, rl.wipeS wp, k, rfl, Nat.zero_le _, hloop⟩, ?_⟩
  rintro i m σ' H' ⟨Z', s', hz', r', k', rfl, hle, hl⟩
  by_cases hlt : i < xs.length
  · refine .inr ⟨wk.go i H' (hz'.trans r'.zh) hlt, fun σ2 H2 => ∃ Z2 s2, Same Z' Z2 ∧ Rel X.K Z2 Y H2 σ2 s2 ∧ L.keeps σ2 ∧ fLoop fg wp f1 Ef (xs.drop (i + 1)) (wipeS s2 wp), fun σ2 H2 ⟨Z2, s2, hz2, r2, k2, h2⟩ => ⟨xs.length - (i + 1), by omega, Z2, _, hz'.trans hz2, r2.wipeS wp, k2, rfl, hlt, h2⟩, fun x H2 hy => ?_⟩
    obtain ⟨d, Z2, hd, n⟩ := wk.yld i H' x H2 Z' hz' r'.zh hlt hy
    have ed : xs.drop i = d :: xs.drop (i + 1) := by
      obtain ⟨h1, h2⟩ := List.getElem?_eq_some_iff.mp hd
      rw [List.drop_eq_getElem_cons hlt, h2]
    rw [ed] at hl
    have r2 : Rel X.K Z2 Y H2 σ' s' := r'.grow n.hh n.hz n.zh n.old
    refine ⟨Z2, Y, s', d, _, r2, k', n.val, hl, fun σ3 s3 k3 _ r3 h3 => ?_⟩
    refine ⟨Z2, Y, s3, _, r3, k3, h3, ⟨fun σ4 H4 Z4 s4 hz4 k4 r4 h4 => ⟨Z4, s4, n.hz.trans hz4, r4, k4, h4⟩, fun v σ4 H4 Z4 r0 s4 hz4 k4 rx4 h4 => eo.rt v σ4 H4 Z4 r0 s4 (((hz.trans hz').trans n.hz).trans hz4) k4 rx4 h4,
      fun σ4 H4 Z4 s4 hz4 k4 r4 h4 => eo.nx σ4 H4 Z4 _ (((hz.trans hz').trans n.hz).trans hz4) k4 (r4.wipeS wp) h4, fun σ4 H4 Z4 s4 hz4 k4 r4 h4 => ⟨Z4, s4, n.hz.trans hz4, r4, k4, h4⟩, eo.xx.z ((hz.trans hz').trans n.hz)⟩⟩
  · have ei : i = xs.length := by omega
    subst ei
    rw [List.drop_length] at hl
    exact .inl ⟨wk.stop _ H' (hz'.trans r'.zh) (Nat.le_refl _), eo.nx σ' H' Z' s' (hz.trans hz') k' r' hl⟩
theorem pfs_while {body : List Stmt} (hp : PassesOwn (model X.prog X.w) X.A X.env X.xe) (hc : PFT X L c ft) (hb : PFSs X L body f1) : PFS X L (.While c body [] pos) (fWhile wp ft f1) := PS_imp (ps_while hp hc hb) fun D σ H ⟨Z, Y, s, Ef, r, k, ⟨n, h⟩, eo⟩ => by
  refine ⟨fun m σ' H' => ∃ Z' s', Same Z Z' ∧ Rel X.K Z' Y H' σ' s' ∧ L.keeps σ' ∧ fWhileN wp ft f1 Ef m s', ⟨n, Z, _, Same.refl _, r.wipeS wp, k, h⟩, ?_⟩
  rintro m σ' H' ⟨Z', s', hz', r', k', hl⟩
  cases m with
  | zero => exact hl.elim
  | succ m =>
    refine ⟨Z', Y, s', Ef.xx, _, r', k', eo.xx.z hz', hl, fun d H1 Z1 s1 hz1 r1 h1 => ?_⟩
    cases d with
    | false => exact eo.nx σ' H1 Z1 s1 (hz'.trans hz1) k' r1 h1
    | true =>
      simp only [if_true] at h1 ⊢
      refine ⟨fun σ2 H2 => ∃ Z2 s2, Same Z1 Z2 ∧ Rel X.K Z2 Y H2 σ2 s2 ∧ L.keeps σ2 ∧ fWhileN wp ft f1 Ef m (wipeS s2 wp), fun σ2 H2 ⟨Z2, s2, hz2, r2, k2, h2⟩ => ⟨m, Nat.lt_succ_self m, Z2, _, (hz'.trans hz1).trans hz2, r2.wipeS wp, k2, h2⟩, ?_⟩
      exact ⟨Z1, Y, s1, _, r1, k', h1, ⟨fun σ4 H4 Z4 s4 hz4 k4 r4 h4 => ⟨Z4, s4, hz4, r4, k4, h4⟩, fun v σ4 H4 Z4 r0 s4 hz4 k4 rx4 h4 => eo.rt v σ4 H4 Z4 r0 s4 ((hz'.trans hz1).trans hz4) k4 rx4 h4,
        fun σ4 H4 Z4 s4 hz4 k4 r4 h4 => eo.nx σ4 H4 Z4 _ ((hz'.trans hz1).trans hz4) k4 (r4.wipeS wp) h4, fun σ4 H4 Z4 s4 hz4 k4 r4 h4 => ⟨Z4, s4, hz4, r4, k4, h4⟩, eo.xx.z (hz'.trans hz1)⟩⟩
theorem wipe_only {σ σ' : St} {vs : List Nat} (o : Only vs σ σ') : wipe σ' vs = wipe σ vs := by
  refine List.ext_getElem? fun j => ?_
  have g : ∀ τ : St, (wipe τ vs)[j]? = if j < τ.length then some (if j ∈ vs then none else τ.getD j none) else none := fun τ => by
    by_cases h : j < τ.length
    · rw [if_pos h]
      have q := wipe_get τ vs j
      rw [List.getD_eq_getElem?_getD, List.getElem?_eq_getElem (by rw [wipe_length]; exact h)] at q
      rw [List.getElem?_eq_getElem (by rw [wipe_length]; exact h)]
      exact congrArg some q
    · rw [if_neg h, List.getElem?_eq_none (by rw [wipe_length]; omega)]
  rw [g, g, o.1]
  by_cases h : j ∈ vs
  · simp [h]
  · simp only [h, if_false]
    rw [List.getD_eq_getElem?_getD, List.getD_eq_getElem?_getD, o.2 j h]
theorem wipe_wipe {σ : St} {vs : List Nat} : Only vs σ (wipe σ vs) := ⟨wipe_length σ vs, fun j h => by
  have q := wipe_get σ vs j
  rw [if_neg h, List.getD_eq_getElem?_getD, List.getD_eq_getElem?_getD] at q
  by_cases hj : j < σ.length
  · rw [List.getElem?_eq_getElem (by rw [wipe_length]; exact hj), List.getElem?_eq_getElem hj] at q ⊢
    exact congrArg some q
  · rw [List.getElem?_eq_none (by rw [wipe_length]; omega), List.getElem?_eq_none (by omega)]⟩
/-- the wiped slots hold nothing: whatever stands there -/
theorem Rel.unwipe {K : PySem.W.Frag} {Z Y H : Hp} {σ σ' ts : St} {s us : S} {vs : List Nat} (r : Rel K Z Y H (σ ++ ts) (s ++ us)) (o : Only vs σ σ') (hl : σ.length = s.length) (hn : ∀ j ∈ vs, s.getD j .no = .no) : Rel K Z Y H (σ' ++ ts) (s ++ us) := by
  refine r.re (fun k => if k < σ.length ∧ k ∈ vs then none else some k) (by have := r.len; simp only [List.length_append] at this ⊢; rw [o.1]; exact this) (fun k => ?_) (fun k k' j h h' => ?_)
  · by_cases h : k < σ.length ∧ k ∈ vs
    · simp only [if_pos h]
      exact .inl (by rw [getD_app_lt (by omega)]; exact hn k h.2)
    · simp only [if_neg h]
      refine ⟨trivial, ?_⟩
      by_cases hk : k < σ.length
      · have hv : k ∉ vs := fun z => h ⟨hk, z⟩
        rw [getD_app_lt (by rw [o.1]; exact hk), getD_app_lt hk, List.getD_eq_getElem?_getD, List.getD_eq_getElem?_getD, o.2 k hv]
      · rw [getD_app_ge (by rw [o.1]; omega), getD_app_ge (by omega), o.1]
  · by_cases a1 : k < σ.length ∧ k ∈ vs
    · rw [if_pos a1] at h; cases h
    · by_cases b1 : k' < σ.length ∧ k' ∈ vs
      · rw [if_pos b1] at h'; cases h'
      · rw [if_neg a1] at h; rw [if_neg b1] at h'; cases h; cases h'; rfl
theorem Rel.wipe2 {K : PySem.W.Frag} {Z Y H : Hp} {σ ts : St} {s us : S} (r : Rel K Z Y H (σ ++ ts) (s ++ us)) (hl : σ.length = s.length) (vs : List Nat) : Rel K Z Y H (wipe σ vs ++ ts) (Hs.wipeS s vs ++ us) := by
  refine Rel.unwipe (σ := σ) (vs := vs) ?_ wipe_wipe (by rw [wipeS_len]; exact hl) fun j hj => by rw [wipeS_get, if_pos hj]
  refine r.re (fun k => if k < σ.length ∧ k ∈ vs then none else some k) (by have := r.len; simp only [List.length_append, wipeS_len] at this ⊢; exact this) (fun k => ?_) (fun k k' j h h' => ?_)
  · by_cases h : k < σ.length ∧ k ∈ vs
    · simp only [if_pos h]
      exact .inl (by rw [getD_app_lt (by rw [wipeS_len]; omega), wipeS_get, if_pos h.2])
    · simp only [if_neg h]
      refine ⟨?_, trivial⟩
      by_cases hk : k < σ.length
      · have hv : k ∉ vs := fun z => h ⟨hk, z⟩
        rw [getD_app_lt (by rw [wipeS_len]; omega), getD_app_lt (by omega), wipeS_get, if_neg hv]
      · rw [getD_app_ge (by rw [wipeS_len]; omega), getD_app_ge (by omega), wipeS_len]
  · by_cases a1 : k < σ.length ∧ k ∈ vs
    · rw [if_pos a1] at h; cases h
    · by_cases b1 : k' < σ.length ∧ k' ∈ vs
      · rw [if_pos b1] at h'; cases h'
      · rw [if_neg a1] at h; rw [if_neg b1] at h'; cases h; cases h'; rfl
/-- within a comprehension no error leaves -/
def Lv.in0 (L : Lv) : Lv := { L with E := fun _ _ _ _ => False }
theorem XOk.none {Z Y : Hp} : XOk X L Z Y fun _ _ => False := fun _ _ _ _ _ _ _ _ _ h _ => h.elim
structure PFTs (X : Cx) (L : Lv) (ifs : List Expr) (ft : FT) : Prop where
  h : PTs X ifs (liftT X L ft)
theorem pfts_nil : PFTs X L [] fYes := ⟨⟨fun pins s σ H Q I ⟨Z, Y, s', Xf, Qf, r, k, xo, h, q⟩ => pts_nil.run pins s σ H Q I (q true H Z s' (Same.refl _) r h)⟩⟩
theorem pfts_one {c : Expr} (h : PFT X L c ft) : PFTs X L [c] ft := ⟨pts_one h⟩
theorem fLc_ok {fi : FI} {fg : FG} {vs : List Nat} {σ : St} {H : Hp} {Q : VK} (hv : ∀ j ∈ vs, j ∉ L.io) (h : liftE X L (fLc fi fg vs ft fa) σ H Q) :
    tLc (liftI X L fi) (liftG X L.in0 vs fg) (liftT X L.in0 ft) (liftE X L.in0 fa) vs σ H Q := by
  obtain ⟨Z, Y, s, Xf, Qf, r, k, xo, h, q⟩ := h
  refine ⟨Z, Y, s, Xf, _, r, k, xo, h, fun J H1 Z1 s1 xs hz rl wk ⟨hsz, hcomp⟩ => fun D hD => ?_⟩
  have kw : L.keeps (wipe σ vs) := ⟨by rw [wipe_length]; exact k.1, fun j hj => by
    rw [wipe_get, if_neg (fun z => hv j z hj)]
    exact k.2 j hj⟩
  refine ⟨fun i m H' => ∃ Z' s' acc avs, Same Z1 Z' ∧ Rel X.K Z' Y H' (wipe σ vs ++ [some (.ref D)]) (s' ++ [.l acc]) ∧ s'.length = σ.length ∧ (∀ j ∈ vs, s'.getD j .no = .no) ∧ H' D = some (.lst avs) ∧ avs.length ≤ i ∧ m = xs.length - i ∧ i ≤ xs.length ∧ fComp (fun _ _ => False) fg vs ft fa Qf (xs.drop i) acc s',
    ⟨xs.length, Z1, wipeS s1 vs, [], [], Same.refl _, Rel.wipe2 (rl.newL (vs := []) (xs := []) hD (Nat.zero_le _) .nil) rl.len vs, by rw [wipeS_len]; exact rl.len.symm, fun j hj => by rw [wipeS_get, if_pos hj], upd_same, Nat.le_refl _, rfl, Nat.zero_le _, hcomp⟩, ?_⟩
  rintro i m H' ⟨Z', s', acc, avs, hz', r', hl', hno, hDl, hal, rfl, hle, hl⟩
  have hl'' : (wipe σ vs).length = s'.length := by rw [wipe_length, hl']
  by_cases hlt : i < xs.length
  · refine .inr ⟨wk.go i H' (hz'.trans r'.zh) hlt, fun H2 => ∃ Z2 s2 acc2 avs2, Same Z' Z2 ∧ Rel X.K Z2 Y H2 (wipe σ vs ++ [some (.ref D)]) (s2 ++ [.l acc2]) ∧ s2.length = σ.length ∧ (∀ j ∈ vs, s2.getD j .no = .no) ∧ H2 D = some (.lst avs2) ∧ avs2.length ≤ i + 1 ∧ fComp (fun _ _ => False) fg vs ft fa Qf (xs.drop (i + 1)) acc2 s2,
      fun H2 ⟨Z2, s2, acc2, avs2, hz2, r2, l2, n2, d2, al2, h2⟩ => ⟨xs.length - (i + 1), by omega, Z2, s2, acc2, avs2, hz'.trans hz2, r2, l2, n2, d2, al2, rfl, hlt, h2⟩, fun x H2 hy => ?_⟩
    obtain ⟨d, Z2, hd, n⟩ := wk.yld i H' x H2 Z' hz' r'.zh hlt hy
    have ed : xs.drop i = d :: xs.drop (i + 1) := by
      obtain ⟨h1, h2⟩ := List.getElem?_eq_some_iff.mp hd
      rw [List.drop_eq_getElem_cons hlt, h2]
    rw [ed] at hl
    have r2 : Rel X.K Z2 Y H2 (wipe σ vs ++ [some (.ref D)]) (s' ++ [.l acc]) := r'.grow n.hh n.hz n.zh n.old
    have hD2 : H2 D = some (.lst avs) := n.hh _ _ hDl
    obtain ⟨Y', hy', rl2, back, held⟩ := r2.frame hl''
    have yD : Y' D = some (.lst avs) := by
      obtain ⟨F, p', v', e1, e2, e3, _⟩ := held 0
      cases e1
      exact e3.trans ((rl2.yh _ _ e3).symm.trans hD2)
    have bk : ∀ Z1 H1 σ1 s1, Same Z2 Z1 → Rel X.K Z1 Y' H1 σ1 s1 → Rel X.K Z1 Y H1 σ1 s1 := fun Z1 H1 σ1 s1 hz q => (back Z1 H1 σ1 s1 hz q).take q.len
    refine ⟨Z2, Y', s', d, _, rl2, kw, n.val, hl, fun σ3 s3 k3 o3 r3 h3 => ⟨(wipe_only o3).trans (wipe_only wipe_wipe), ?_⟩⟩
    refine ⟨Z2, Y', s3, fun _ _ => False, _, r3, k3, XOk.none, h3, fun b H3 Z3 s4 hz3 r4 h4 => ?_⟩
    have e34 : wipe σ3 vs = wipe σ vs := (wipe_only o3).trans (wipe_only wipe_wipe)
    cases b with
    | false =>
      have h4 : fComp (fun _ _ => False) fg vs ft fa Qf (xs.drop (i + 1)) acc (Hs.wipeS s4 vs) := h4
      have b4 := back Z3 H3 _ _ hz3 r4
      have w4 := b4.wipe2 r4.len vs
      rw [e34] at w4
      exact ⟨Z3, Hs.wipeS s4 vs, acc, avs, n.hz.trans hz3, w4, by rw [wipeS_len, ← r4.len, o3.1, wipe_length], fun j hj => by rw [wipeS_get, if_pos hj], r4.yh _ _ yD, Nat.le_succ_of_le hal, h4⟩
    | true =>
      have h4 : fa (fun _ _ => False) s4 fun r s3 => frz r s3 fun d s4 => fComp (fun _ _ => False) fg vs ft fa Qf (xs.drop (i + 1)) (acc ++ [d]) (Hs.wipeS s4 vs) := h4
      refine ⟨Z3, Y', s4, fun _ _ => False, _, r4, k3, XOk.none, h4, fun y H5 Z5 r5 s5 hz5 rx5 h5 => ?_⟩
      have hD5 : H5 D = some (.lst avs) := rx5.rel0.yh _ _ yD
      obtain ⟨Z6, d6, s6, hz6, rx6, h6⟩ := frz_ok (us := []) (ds := []) (vs := []) (rs := []) rx5 rfl h5
      have b6 := back Z6 H5 _ _ ((hz3.trans hz5).trans hz6) rx6.rel0
      refine ⟨avs, hD5, Nat.lt_of_le_of_lt hal (Nat.lt_of_lt_of_le hlt hsz), Z6, Hs.wipeS s6 vs, acc ++ [d6], avs ++ [y], ((n.hz.trans hz3).trans hz5).trans hz6, ?_, by rw [wipeS_len, ← rx6.l1, o3.1, wipe_length], fun j hj => by rw [wipeS_get, if_pos hj], upd_same, by rw [List.length_append]; exact Nat.succ_le_succ hal, h6⟩
      have racc : RpAll X.K Z6 avs acc := by
        obtain ⟨F, q⟩ := b6.slot σ3.length
        rw [getD_app_ge (Nat.le_refl _), getD_app_ge (by rw [rx6.l1]; exact Nat.le_refl _), Nat.sub_self, rx6.l1, Nat.sub_self] at q
        obtain ⟨p', v', e1, e2, e3, e4, e5⟩ := q
        cases e1
        rw [hD5] at e3; cases e3
        exact e5
      have w6 := Rel.write (i := σ3.length) (xs' := acc ++ [d6]) (vs' := avs ++ [y]) b6 (by rw [getD_app_ge (by rw [rx6.l1]; exact Nat.le_refl _), rx6.l1, Nat.sub_self]; rfl) (by rw [getD_app_ge (Nat.le_refl _), Nat.sub_self]; rfl)
        (by rw [List.length_append]; exact Nat.succ_le_of_lt (Nat.lt_of_le_of_lt hal (Nat.lt_of_lt_of_le hlt hsz))) (racc.append (.cons rx6.vd .nil))
      rw [List.set_append_right _ _ (by rw [rx6.l1]; exact Nat.le_refl _), rx6.l1, Nat.sub_self] at w6
      have w7 := Rel.wipe2 w6 rx6.l1 vs
      rw [e34] at w7
      exact w7
  · have ei : i = xs.length := by omega
    subst ei
    rw [List.drop_length] at hl
    have r9 : Rel X.K Z' Y H' (σ ++ [some (.ref D)]) (s' ++ [.l acc]) := Rel.unwipe r' (vs := vs) ⟨(wipe_length σ vs).symm, fun j hj => (wipe_wipe.2 j hj).symm⟩ hl'' hno
    exact .inl ⟨wk.stop _ H' (hz'.trans r'.zh) (Nat.le_refl _), q _ H' Z' _ s' (hz.trans hz') (.own hl'.symm r9) hl⟩
end
end Hs
namespace Hs
open PySem PySem.Spec PyProof.Rows L2
section
variable {X : Cx} {L : Lv} {e a b c : Expr} {es : List Expr} {fa fb fc : FE} {ft fu : FT} {fr : FA} {pos p : Pos} {ws : List Nat}
theorem pf_lc {elt tg iter : Expr} {ifs : List Expr} {scope : Scope} {own : List (Str × Nat)} {fi : FI} {fg : FG} (hc : X.calm = true) (hN : X.N.Nodup) (hi : PFI X L tg iter fi) (ok : BlkOk X.N X.env.scope scope own)
    (hg : ∀ (s : Shared) (H : Hp) (C : Addr) (cl : List (Str × Addr)) (fp : List Addr), PFG (X.blk s H scope (compEnvC scope cl C X.env) fp) L.in0 (own.map fun p : Str × Nat => p.2) tg fg) (ht : ∀ (s : Shared) (H : Hp) (C : Addr) (cl : List (Str × Addr)) (fp : List Addr), PFTs (X.blk s H scope (compEnvC scope cl C X.env) fp) L.in0 ifs ft)
    (he : ∀ (s : Shared) (H : Hp) (C : Addr) (cl : List (Str × Addr)) (fp : List Addr), PF (X.blk s H scope (compEnvC scope cl C X.env) fp) L.in0 elt fa) (hv : ∀ j ∈ (own.map fun p : Str × Nat => p.2), j ∉ L.io := by exact of_decide_eq_true rfl) (hs : ∀ x, foldedSetIterable iter X.env x = pure x := by intro _; rfl) :
    PF X L (.ListComp elt [⟨tg, iter, ifs, 0⟩] scope pos) (fLc fi fg (own.map fun p : Str × Nat => p.2) ft fa) := PE_imp (pe_lc (own := own) (wi := liftI X L fi) (g := liftG X L.in0 (own.map fun p : Str × Nat => p.2) fg) (tt := liftT X L.in0 ft) (te := liftE X L.in0 fa) hc hN hi ok hg (fun s H C cl fp => (ht s H C cl fp).h) he hs) fun σ H Q h => fLc_ok hv h
theorem pfs_setLc {i : Nat} {y : Str} {py : Pos} {elt tg iter : Expr} {ifs : List Expr} {scope : Scope} {own : List (Str × Nat)} {spos : Pos} {fi : FI} {fg : FG} (hc : X.calm = true) (hN : X.N.Nodup)
    (hsw : swapsWith (.ListComp elt [⟨tg, iter, ifs, 0⟩] scope pos) (some (.Name y py)) spos.line X.env = pure true) (hi : PFI X L tg iter fi) (ok : BlkOk X.N X.env.scope scope own)
    (hg : ∀ (s : Shared) (H : Hp) (C : Addr) (cl : List (Str × Addr)) (fp : List Addr), PFG (X.blk s H scope (compEnvC scope cl C X.env) fp) L.in0 (own.map fun p : Str × Nat => p.2) tg fg) (ht : ∀ (s : Shared) (H : Hp) (C : Addr) (cl : List (Str × Addr)) (fp : List Addr), PFTs (X.blk s H scope (compEnvC scope cl C X.env) fp) L.in0 ifs ft)
    (he : ∀ (s : Shared) (H : Hp) (C : Addr) (cl : List (Str × Addr)) (fp : List Addr), PF (X.blk s H scope (compEnvC scope cl C X.env) fp) L.in0 elt fa) (hy : X.N[i]? = some y := by rfl) (hyl : X.env.scope.names.lookup y = some .local := by rfl) (hio : i ∉ L.io := by exact of_decide_eq_true rfl)
    (hv : ∀ j ∈ (own.map fun p : Str × Nat => p.2), j ∉ L.io := by exact of_decide_eq_true rfl) (hs : ∀ x, foldedSetIterable iter X.env x = pure x := by intro _; rfl) :
    PFS X L (.Assign [.Name y py] (.ListComp elt [⟨tg, iter, ifs, 0⟩] scope pos) spos) (fAsg i (fLc fi fg (own.map fun p : Str × Nat => p.2) ft fa)) :=
  PS_imp (ps_setLc (own := own) (wi := liftI X L fi) (g := liftG X L.in0 (own.map fun p : Str × Nat => p.2) fg) (tt := liftT X L.in0 ft) (te := liftE X L.in0 fa) hc hN hy hyl hsw hi ok hg (fun s H C cl fp => (ht s H C cl fp).h) he hs) fun D σ H ⟨Z, Y, s, Ef, r, k, h, eo⟩ => by
  refine fLc_ok (Q := fun x H1 => gName i x σ H1 D.nx) hv ⟨Z, Y, s, Ef.xx, _, r, k, eo.xx, h, fun v H1 Z1 r1 s1 hz rx h1 => ?_⟩
  obtain ⟨Z2, s2, hz2, rl2, h2⟩ := putR_ok rx h1
  exact eo.nx _ H1 Z2 s2 (hz.trans hz2) (L.keeps_set k hio) rl2 h2
/-- a def keeps what its text does; io: the parameters that it may change -/
def liftSp (K : PySem.W.Frag) (mg : Str → Option Value) (io : List Nat) (np : Nat) (sem : FSem) : Sp := fun vs H Q E => ∃ Z Y svs Xf Qf, vs.length = np ∧ Rel K Z Y H (vs.map some) svs ∧ sem svs Xf Qf ∧
  (∀ u H' Z' σ' fin r, Same Z Z' → (∀ k ∈ io, σ'.getD k none = (vs.map some).getD k none) → σ'.length = np → RelX K Z' Y H' σ' fin [u] [r] → (∀ i, r ≠ .top i) → Qf r fin → Q u H') ∧
  (∀ n C H' Z' σ' fin, Same Z Z' → (∀ k ∈ io, σ'.getD k none = (vs.map some).getD k none) → σ'.length = np → Rel K Z' Y H' σ' fin → Xf n fin → mg n = some (.ref C) → E (.ref C) none H')
theorem app_set {α : Type} (a b : List α) (w x : α) (t : List α) : a ++ (b ++ x :: t) = (a ++ (b ++ w :: t)).set (a.length + b.length) x := by
  rw [List.set_append_right _ _ (by omega), Nat.add_sub_cancel_left, List.set_append_right _ _ (Nat.le_refl _), Nat.sub_self]; rfl
theorem bindA_ok {K : PySem.W.Frag} {Y H : Hp} {σ : St} : ∀ {ms : List Bool} {rs : List R} {vs us : List V} {ds : S} {Z : Hp} {s : S} {k : List SV → S → Prop},
    Rel K Z Y H (σ ++ (us ++ vs).map some) (s ++ (ds ++ rs.map svR)) → σ.length = s.length → us.length = ds.length → vs.length = rs.length → (∀ (j i : Nat), rs[j]? = some (R.top i) → i < σ.length ∧ σ.getD i none = vs[j]?) → bindA ms rs s k →
    ∃ Z' svs s', Same Z Z' ∧ Rel K Z' Y H (σ ++ (us ++ vs).map some) (s' ++ (ds ++ svs)) ∧ s'.length = s.length ∧ svs.length = vs.length ∧ ms.length = rs.length ∧ k svs s'
  | [], [], [], us, ds, Z, s, k, r, hl, hu, hv, tp, h => ⟨Z, [], s, Same.refl _, r, rfl, rfl, rfl, h⟩
  | [], [], _ :: _, us, ds, Z, s, k, r, hl, hu, hv, tp, h => by cases hv
  | [], _ :: _, vs, us, ds, Z, s, k, r, hl, hu, hv, tp, h => h.elim
  | true :: _, [], vs, us, ds, Z, s, k, r, hl, hu, hv, tp, h => h.elim
  | false :: _, [], vs, us, ds, Z, s, k, r, hl, hu, hv, tp, h => h.elim
  | m :: ms, r0 :: rs, [], us, ds, Z, s, k, r, hl, hu, hv, tp, h => by cases hv
  | m :: ms, r0 :: rs, v :: vs, us, ds, Z, s, k, r, hl, hu, hv, tp, h => by
    have tp' : ∀ (j i : Nat), rs[j]? = some (R.top i) → i < σ.length ∧ σ.getD i none = vs[j]? := fun j i e => tp (j + 1) i e
    have hl2 := r.len
    have ev : (us ++ v :: vs) = (us ++ [v]) ++ vs := by simp
    have go : ∀ {Z1 : Hp} {w : SV} {s1 : S} {k1 : List SV → S → Prop}, Same Z Z1 → s1.length = s.length → Rel K Z1 Y H (σ ++ (us ++ v :: vs).map some) (s1 ++ (ds ++ w :: rs.map svR)) → bindA ms rs s1 k1 → (∀ svs s', k1 svs s' → k (w :: svs) s') →
        ∃ Z' svs s', Same Z Z' ∧ Rel K Z' Y H (σ ++ (us ++ v :: vs).map some) (s' ++ (ds ++ svs)) ∧ s'.length = s.length ∧ svs.length = (v :: vs).length ∧ (m :: ms).length = (r0 :: rs).length ∧ k svs s' := by
      intro Z1 w s1 k1 hz1 hl1 r1 h1 hk
      have e2 : ds ++ w :: rs.map svR = (ds ++ [w]) ++ rs.map svR := by simp
      rw [ev, e2] at r1
      obtain ⟨Z', svs, s', hz, r2, hls, hlv, hlm, hk2⟩ := bindA_ok r1 (by rw [hl1]; exact hl) (by simp [hu]) (by simpa using hv) tp' h1
      refine ⟨Z', w :: svs, s', hz1.trans hz, ?_, hls.trans hl1, by simp [hlv], by simp [hlm], hk _ _ hk2⟩
      rw [ev]
      simpa using r2
    have ix : ∀ (w : SV) (t : S), (s ++ (ds ++ w :: t)).getD (s.length + ds.length) .no = w := fun w t => by
      rw [getD_app_ge (by omega), Nat.add_sub_cancel_left, getD_app_ge (Nat.le_refl _), Nat.sub_self]; rfl
    have iv : (σ ++ (us ++ v :: vs).map some).getD (s.length + ds.length) none = some v := by
      rw [← hl, ← hu, getD_app_ge (by omega), Nat.add_sub_cancel_left, List.map_append, getD_app_ge (by simp), List.length_map, Nat.sub_self]; rfl
    -- the k-th argument's content is exchanged: by a value that nobody changes
    have byD : ∀ {Z1 : Hp} {s1 : S} {w : SV} {x : D}, s1.length = s.length → Rel K Z1 Y H (σ ++ (us ++ v :: vs).map some) (s1 ++ (ds ++ w :: rs.map svR)) → Rp K Z1 v x → Rel K Z1 Y H (σ ++ (us ++ v :: vs).map some) (s1 ++ (ds ++ .d x :: rs.map svR)) := by
      intro Z1 s1 w x hl1 r1 rp
      refine r1.re (fun k => if k = s.length + ds.length then none else some k) (by have := r1.len; simpa using this) (fun k => ?_) (fun k k' j h h' => ?_)
      · by_cases hk : k = s.length + ds.length
        · simp only [if_pos hk]
          refine .inr ⟨x, v, ?_, by rw [hk]; exact iv, rp⟩
          rw [hk, ← hl1, getD_app_ge (by omega), Nat.add_sub_cancel_left, getD_app_ge (Nat.le_refl _), Nat.sub_self]; rfl
        · simp only [if_neg hk]
          refine ⟨?_, trivial⟩
          rw [app_set s1 ds w (.d x) (rs.map svR), hl1, getD_set_ne (Ne.symm hk)]
      · by_cases e1 : k = s.length + ds.length
        · rw [if_pos e1] at h; cases h
        · by_cases e2 : k' = s.length + ds.length
          · rw [if_pos e2] at h'; cases h'
          · rw [if_neg e1] at h; rw [if_neg e2] at h'; cases h; cases h'; rfl
    cases m with
    | false =>
      cases r0 with
      | d x => exact go (Same.refl _) rfl r h fun _ _ q => q
      | own w =>
        have h : (match asD w with | some x => bindA ms rs s fun svs s2 => k (.d x :: svs) s2 | none => False) := h
        cases e : asD w with
        | none => rw [e] at h; exact h.elim
        | some x =>
          rw [e] at h
          obtain ⟨Z1, hz1, r1⟩ := r.freeze (i := s.length + ds.length) (x := x) (by rw [show ((R.own w :: rs).map svR) = w :: rs.map svR from rfl, ix]; exact e)
          have es : (s ++ (ds ++ (R.own w :: rs).map svR)).set (s.length + ds.length) (.d x) = s ++ (ds ++ .d x :: rs.map svR) := by
            rw [List.set_append_right _ _ (by omega), Nat.add_sub_cancel_left, List.set_append_right _ _ (Nat.le_refl _), Nat.sub_self]; rfl
          rw [es] at r1
          exact go hz1 rfl r1 h fun _ _ q => q
      | top i =>
        have h : (match asD (s.getD i .no) with | some x => bindA ms rs (s.set i (.d x)) fun svs s2 => k (.d x :: svs) s2 | none => False) := h
        cases e : asD (s.getD i .no) with
        | none => rw [e] at h; exact h.elim
        | some x =>
          rw [e] at h
          obtain ⟨hi, hvi⟩ := tp 0 i rfl
          have his : i < s.length := by omega
          obtain ⟨Z1, hz1, r1⟩ := r.freeze (i := i) (x := x) (by rw [getD_app_lt his]; exact e)
          rw [List.set_append_left _ _ his] at r1
          have rp : Rp K Z1 v x := by
            obtain ⟨F, q⟩ := r1.slot i
            rw [getD_app_lt hi, getD_app_lt (by rw [List.length_set]; exact his), getD_set_self his, hvi] at q
            obtain ⟨_, u, e1, rp⟩ := q
            cases e1
            exact rp
          exact go hz1 (by rw [List.length_set]) (byD (by rw [List.length_set]) r1 rp) h fun _ _ q => q
    | true =>
      cases r0 with
      | d x => exact go (Same.refl _) rfl r h fun _ _ q => q
      | own w => exact go (Same.refl _) rfl r h fun _ _ q => q
      | top i =>
        obtain ⟨hi, hvi⟩ := tp 0 i rfl
        have his : i < s.length := by omega
        have h : bindA ms rs (s.set i .no) fun svs s2 => k (s.getD i .no :: svs) s2 := h
        refine go (w := s.getD i .no) (s1 := s.set i .no) (Same.refl _) (by rw [List.length_set]) ?_ h fun _ _ q => q
        -- the content moves from the slot to the argument
        refine r.re (fun k => if k = s.length + ds.length then some i else if k = i then none else some k) (by have := r.len; simpa using this) (fun k => ?_) (fun k k' j h h' => ?_)
        · by_cases hk : k = s.length + ds.length
          · simp only [if_pos hk]
            refine ⟨?_, ?_⟩
            · rw [hk, getD_app_lt his, getD_app_ge (by rw [List.length_set]; omega), List.length_set, Nat.add_sub_cancel_left, getD_app_ge (Nat.le_refl _), Nat.sub_self]; rfl
            · rw [hk, iv, getD_app_lt hi, hvi]; rfl
          · simp only [if_neg hk]
            by_cases h0 : k = i
            · simp only [if_pos h0]
              exact .inl (by rw [h0, getD_app_lt (by rw [List.length_set]; exact his), getD_set_self his])
            · simp only [if_neg h0]
              refine ⟨?_, trivial⟩
              rw [app_set (s.set i .no) ds .no (s.getD i .no) (rs.map svR), List.length_set, getD_set_ne (Ne.symm hk), ← List.set_append_left _ _ his, getD_set_ne (Ne.symm h0)]
              rfl
        · split at h <;> split at h' <;> (try split at h) <;> (try split at h') <;> (try cases h) <;> (try cases h') <;> (try injection h with h) <;> (try injection h' with h') <;> omega
theorem putB_len : ∀ {ms : List Bool} {rs : List R} {fin s : S}, (putB ms rs fin s).length = s.length
  | true :: ms, .top i :: rs, f :: fin, s => by unfold putB; rw [putB_len, List.length_set]
  | true :: ms, .d x :: rs, f :: fin, s => by unfold putB; exact putB_len
  | true :: ms, .own x :: rs, f :: fin, s => by unfold putB; exact putB_len
  | false :: ms, r :: rs, f :: fin, s => by unfold putB; exact putB_len
  | [], _, _, _ => rfl
  | true :: _, [], _, _ => rfl
  | false :: _, [], _, _ => rfl
  | true :: _, .top _ :: _, [], _ => rfl
  | true :: _, .d _ :: _, [], _ => rfl
  | true :: _, .own _ :: _, [], _ => rfl
  | false :: _, _ :: _, [], _ => rfl
/-- a slot behind the call: as it was, or what the argument that lent it holds -/
theorem putB_at : ∀ {ms : List Bool} {rs : List R} {fin s : S} (i : Nat), (putB ms rs fin s).getD i .no = s.getD i .no ∨ ∃ k : Nat, ms[k]? = some true ∧ rs[k]? = some (.top i) ∧ (putB ms rs fin s).getD i .no = fin.getD k .no
  | true :: ms, .top j :: rs, f :: fin, s, i => by
    unfold putB
    rcases putB_at (ms := ms) (rs := rs) (fin := fin) (s := s.set j f) i with h | ⟨k, h1, h2, h3⟩
    · by_cases hj : j = i
      · subst hj
        by_cases hlt : j < s.length
        · refine .inr ⟨0, rfl, rfl, ?_⟩
          rw [h, getD_set_self hlt]; rfl
        · refine .inl ?_
          rw [h, List.set_eq_of_length_le (by omega)]
      · exact .inl (by rw [h, getD_set_ne hj])
    · exact .inr ⟨k + 1, h1, h2, h3⟩
  | true :: ms, .d x :: rs, f :: fin, s, i => by
    unfold putB
    rcases putB_at (ms := ms) (rs := rs) (fin := fin) (s := s) i with h | ⟨k, h1, h2, h3⟩
    · exact .inl h
    · exact .inr ⟨k + 1, h1, h2, h3⟩
  | true :: ms, .own x :: rs, f :: fin, s, i => by
    unfold putB
    rcases putB_at (ms := ms) (rs := rs) (fin := fin) (s := s) i with h | ⟨k, h1, h2, h3⟩
    · exact .inl h
    · exact .inr ⟨k + 1, h1, h2, h3⟩
  | false :: ms, r :: rs, f :: fin, s, i => by
    unfold putB
    rcases putB_at (ms := ms) (rs := rs) (fin := fin) (s := s) i with h | ⟨k, h1, h2, h3⟩
    · exact .inl h
    · exact .inr ⟨k + 1, h1, h2, h3⟩
  | [], _, _, _, _ => .inl rfl
  | true :: _, [], _, _, _ => .inl rfl
  | false :: _, [], _, _, _ => .inl rfl
  | true :: _, .top _ :: _, [], _, _ => .inl rfl
  | true :: _, .d _ :: _, [], _, _ => .inl rfl
  | true :: _, .own _ :: _, [], _, _ => .inl rfl
  | false :: _, _ :: _, [], _, _ => .inl rfl
/-- the parameters that are lent -/
def ioOf (ms : List Bool) : List Nat := (List.range ms.length).filter fun k => ms.getD k false
theorem mem_ioOf {ms : List Bool} {k : Nat} (h : ms[k]? = some true) : k ∈ ioOf ms := by
  obtain ⟨h1, h2⟩ := List.getElem?_eq_some_iff.mp h
  exact List.mem_filter.mpr ⟨List.mem_range.mpr h1, by rw [List.getD_eq_getElem?_getD, h]; rfl⟩
/-- behind the call: the lent slots hold what the arguments hold -/
theorem back_ok {K : PySem.W.Frag} {Z Y H : Hp} {σ σ' ts : St} {s fin us : S} {ms : List Bool} {rs : List R} {vs : List V} (r : Rel K Z Y H (σ' ++ ts ++ σ) (fin ++ us ++ s)) (hl : σ.length = s.length) (hf : σ'.length = fin.length) (hu : ts.length = us.length)
    (keep : ∀ k ∈ ioOf ms, σ'.getD k none = (vs.map some).getD k none) (hv : vs.length = rs.length) (tp : ∀ (j i : Nat), rs[j]? = some (R.top i) → i < σ.length ∧ σ.getD i none = vs[j]?) (hfl : fin.length = vs.length) : Rel K Z Y H (σ ++ ts) (putB ms rs fin s ++ us) := by
  classical
  have at_ := fun i => putB_at (ms := ms) (rs := rs) (fin := fin) (s := s) i
  refine r.re (fun k => if k < σ.length then (if h : ∃ j : Nat, ms[j]? = some true ∧ rs[j]? = some (.top k) ∧ (putB ms rs fin s).getD k .no = fin.getD j .no then some h.choose else some (σ'.length + ts.length + k)) else if k < σ.length + ts.length then some (k - σ.length + σ'.length) else none)
    (by simp [putB_len, hl, hu]) (fun k => ?_) (fun k k' j h h' => ?_)
  · by_cases hk : k < σ.length
    · simp only [if_pos hk]
      by_cases h : ∃ j : Nat, ms[j]? = some true ∧ rs[j]? = some (.top k) ∧ (putB ms rs fin s).getD k .no = fin.getD j .no
      · simp only [dif_pos h]
        obtain ⟨h1, h2, h3⟩ := h.choose_spec
        generalize h.choose = j at h1 h2 h3
        have hlt : j < vs.length := by rw [hv]; exact (List.getElem?_eq_some_iff.mp h2).1
        refine ⟨?_, ?_⟩
        · rw [getD_app_lt (by rw [putB_len]; omega), h3, List.append_assoc, getD_app_lt (by omega)]
        · rw [getD_app_lt hk, (tp _ _ h2).2, List.append_assoc, getD_app_lt (by omega), keep _ (mem_ioOf h1), List.getD_eq_getElem?_getD, List.getElem?_map]
          rw [List.getElem?_eq_getElem hlt]; rfl
      · simp only [dif_neg h]
        refine ⟨?_, ?_⟩
        · rcases at_ k with q | q
          · rw [getD_app_lt (by rw [putB_len]; omega), q, getD_app_ge (by simp; omega)]
            have e : σ'.length + ts.length + k - (fin ++ us).length = k := by simp; omega
            rw [e]
          · exact absurd q h
        · rw [getD_app_lt hk, getD_app_ge (by simp)]
          have e : σ'.length + ts.length + k - (σ' ++ ts).length = k := by simp
          rw [e]
    · simp only [if_neg hk]
      by_cases hk2 : k < σ.length + ts.length
      · simp only [if_pos hk2]
        refine ⟨?_, ?_⟩
        · rw [getD_app_ge (by rw [putB_len]; omega), List.append_assoc, getD_app_ge (by omega), getD_app_lt (by omega), putB_len]
          congr 1; omega
        · rw [getD_app_ge (by omega), List.append_assoc, getD_app_ge (by omega), getD_app_lt (by omega)]
          congr 1; omega
      · simp only [if_neg hk2]
        exact .inl (getD_out (by simp [putB_len]; omega))
  · by_cases hk : k < σ.length
    · simp only [if_pos hk] at h
      by_cases hk' : k' < σ.length
      · simp only [if_pos hk'] at h'
        by_cases q : ∃ j : Nat, ms[j]? = some true ∧ rs[j]? = some (.top k) ∧ (putB ms rs fin s).getD k .no = fin.getD j .no
        · rw [dif_pos q] at h
          have qlt : q.choose < vs.length := by rw [hv]; exact (List.getElem?_eq_some_iff.mp q.choose_spec.2.1).1
          by_cases q' : ∃ j : Nat, ms[j]? = some true ∧ rs[j]? = some (.top k') ∧ (putB ms rs fin s).getD k' .no = fin.getD j .no
          · rw [dif_pos q'] at h'
            have e : q.choose = q'.choose := Option.some.inj (h.trans h'.symm)
            have e1 := q.choose_spec.2.1
            have e2 := q'.choose_spec.2.1
            rw [e, e2] at e1
            cases e1; rfl
          · rw [dif_neg q'] at h'
            have e := Option.some.inj (h.trans h'.symm)
            omega
        · rw [dif_neg q] at h
          by_cases q' : ∃ j : Nat, ms[j]? = some true ∧ rs[j]? = some (.top k') ∧ (putB ms rs fin s).getD k' .no = fin.getD j .no
          · rw [dif_pos q'] at h'
            have qlt : q'.choose < vs.length := by rw [hv]; exact (List.getElem?_eq_some_iff.mp q'.choose_spec.2.1).1
            have e := Option.some.inj (h.trans h'.symm)
            omega
          · rw [dif_neg q'] at h'
            have e := Option.some.inj (h.trans h'.symm)
            omega
      · simp only [if_neg hk'] at h'
        by_cases hk2 : k' < σ.length + ts.length
        · rw [if_pos hk2] at h'
          by_cases q : ∃ j : Nat, ms[j]? = some true ∧ rs[j]? = some (.top k) ∧ (putB ms rs fin s).getD k .no = fin.getD j .no
          · rw [dif_pos q] at h
            have qlt : q.choose < vs.length := by rw [hv]; exact (List.getElem?_eq_some_iff.mp q.choose_spec.2.1).1
            have e := Option.some.inj (h.trans h'.symm)
            omega
          · rw [dif_neg q] at h
            have e := Option.some.inj (h.trans h'.symm)
            omega
        · rw [if_neg hk2] at h'; cases h'
    · simp only [if_neg hk] at h
      by_cases hk2 : k < σ.length + ts.length
      · rw [if_pos hk2] at h
        by_cases hk' : k' < σ.length
        · simp only [if_pos hk'] at h'
          by_cases q : ∃ j : Nat, ms[j]? = some true ∧ rs[j]? = some (.top k') ∧ (putB ms rs fin s).getD k' .no = fin.getD j .no
          · rw [dif_pos q] at h'
            have qlt : q.choose < vs.length := by rw [hv]; exact (List.getElem?_eq_some_iff.mp q.choose_spec.2.1).1
            have e := Option.some.inj (h.trans h'.symm)
            omega
          · rw [dif_neg q] at h'
            have e := Option.some.inj (h.trans h'.symm)
            omega
        · simp only [if_neg hk'] at h'
          by_cases hk2' : k' < σ.length + ts.length
          · rw [if_pos hk2'] at h'
            have e := Option.some.inj (h.trans h'.symm)
            omega
          · rw [if_neg hk2'] at h'; cases h'
      · rw [if_neg hk2] at h; cases h
/-- the call, by the callee's text -/
theorem fCall_ok {sem : FSem} {ms : List Bool} {n : Nat} {σ : St} {H : Hp} {Q : VK} (hn : ms.length = n) (h : liftE X L (fCall sem ms fr) σ H Q) :
    tCallSD (liftSp X.K X.mg (ioOf ms) n sem) [] (fun σ cls d H => L.E cls d σ H) (liftA X L n fr) σ H Q := by
  obtain ⟨Z, Y, s, Xf, Qf, r, k, xo, h, q⟩ := h
  refine ⟨Z, Y, s, Xf, _, r, k, xo, h, fun vs H1 Z1 rs s1 hz rx hrn h1 => ?_⟩
  obtain ⟨Z2, svs, s2, hz2, r2, hls, hlv, hlm, h2⟩ := bindA_ok (us := []) (ds := []) (vs := vs) (by simpa using rx.rel) rx.l1 rfl rx.l2 rx.top h1
  simp only [List.nil_append] at r2
  have hσ : σ.length = s2.length := by rw [hls]; exact rx.l1
  have hts : (vs.map some).length = svs.length := by rw [List.length_map, hlv]
  -- the arguments alone
  have r3 : Rel X.K Z2 Y H1 ([] ++ vs.map some ++ σ) ([] ++ svs ++ s2) := Rel.swap (σa := []) (sa := []) (by simpa using r2) rfl hσ
  simp only [List.nil_append] at r3
  obtain ⟨Y', hy', r4, back, _⟩ := r3.frame hts
  have hvn : vs.length = n := by rw [rx.l2, hrn]
  rw [List.append_nil]
  refine ⟨Z2, Y', svs, _, _, hvn, r4, h2, fun u H' Z' σ' fin r' hz' keep hl' rx' nt hq => ?_, fun n' C H' Z' σ' fin hz' keep hl' r' hx m => ?_⟩
  · have b := back Z' H' _ _ hz' rx'.rel
    have lf : σ'.length = fin.length := rx'.l1
    have b2 := back_ok (ms := ms) (rs := rs) (vs := vs) b hσ lf (by simp) keep rx.l2 rx.top (by rw [← lf, hl', hvn])
    refine q u H' Z' r' _ ((hz.trans hz2).trans hz') ⟨b2, by rw [putB_len]; exact hσ, rfl, fun k i e => ?_⟩ hq
    cases k with
    | zero => exact absurd (by simpa using e) (nt i)
    | succ k => simp at e
  · have b := back Z' H' _ _ hz' r'
    have lf : σ'.length = fin.length := r'.len
    have b2 := back_ok (ts := []) (us := []) (ms := ms) (rs := rs) (vs := vs) (by simpa using b) hσ lf rfl keep rx.l2 rx.top (by rw [← lf, hl', hvn])
    simp only [List.append_nil] at b2
    exact xo n' C Z' H' σ _ ((hz.trans hz2).trans hz') k b2 hx m
variable {CX : CXT} {k : Nat} {f : Addr} {fd : FuncData} {ps : List Str} {x : Str}
theorem pf_call {sem : FSem} {ms : List Bool} (F : FnOk X.prog X.w X.K X.mg X.base CX k f fd ps (liftSp X.K X.mg (ioOf ms) (es.length + 1) sem)) (hr : Room k X.A) (hm : X.mg x = some (.ref f)) (hk : PySem.W.keepIn X.K (.ref f) = true) (hb : Binds X.K fd ps [])
    (hx : ∀ σ, PassesAt CX X σ (fun cls d H => L.E cls d σ H)) (ha : PFA X L (e :: es) fr) (hg : Gl X x := by rfl) (hn : ms.length = es.length + 1 := by rfl) (hdb : (x == ("__debug__" : Str)) = false := by decide) (he : starEach (e :: es) X.env = (false, eval e X.env) :: starEach es X.env := by rfl) (hpl : (backTo pos (starEach es X.env)).any (·.1) = false := by rfl) :
    PF X L (.Call (.Name x p) (e :: es) [] pos) (fCall sem ms fr) := PE_imp (pe_callSD F hr hg hm hk hb .nil hx ha hdb he hpl) fun σ H Q h => fCall_ok hn h
theorem pass0At : ∀ σ, PassesAt (L2.CX X.prog X.w) X σ (fun cls d H => L.in0.E cls d σ H) := fun σ pins H s e s' I c => passL pins σ H s e s' I c
variable {P : Program} {w : World} {K : PySem.W.Frag} {mg : Str → Option Value} {base : Heap}
theorem okStart {X : Cx} {N ps : List Str} {io : List Nat} {bd : FS} {vs : List V} {H : Hp} {Q : VK} {E : XK} (hnp : ps.length ≤ N.length) (h : liftSp X.K X.mg io ps.length (semOf ps.length N.length bd) vs H Q E) :
    liftS X ⟨fun cls d _ H => E cls d H, io, L2.start N vs⟩ bd { nx := fun _ H' => Q .non H', rt := Q } (L2.start N vs) H := by
  obtain ⟨Z, Y, svs, Xf, Qf, hl, r, hsem, hq, hx⟩ := h
  have hs : svs.length = ps.length := by have := r.len; rw [List.length_map] at this; omega
  have r0 : Rel X.K Z Y H (L2.start N vs) (svs ++ List.replicate (N.length - ps.length) .no) := by
    unfold L2.start
    rw [hl]
    generalize N.length - ps.length = n
    refine r.re (fun k => if k < svs.length then some k else none) (by simp [hs, hl]) (fun k => ?_) (fun k k' j h h' => ?_)
    · by_cases h : k < svs.length
      · simp only [if_pos h]
        exact ⟨by rw [getD_app_lt h], by rw [getD_app_lt (by simp; omega)]⟩
      · simp only [if_neg h]
        refine .inl ?_
        rw [getD_app_ge (by omega), List.getD_eq_getElem?_getD, List.getElem?_replicate]
        split <;> rfl
    · by_cases a : k < svs.length
      · by_cases b : k' < svs.length
        · rw [if_pos a] at h; rw [if_pos b] at h'; cases h; cases h'; rfl
        · rw [if_neg b] at h'; cases h'
      · rw [if_neg a] at h; cases h
  have tk : ∀ {Z' H' : Hp} {σ' ts : St} {s' us : S}, Rel X.K Z' Y H' (σ' ++ ts) (s' ++ us) → σ'.length = s'.length → Rel X.K Z' Y H' (σ'.take ps.length ++ ts) (s'.take ps.length ++ us) := by
    intro Z' H' σ' ts s' us r' hl'
    have hl2 := r'.len
    simp only [List.length_append] at hl2
    have g1 : ∀ j, j < (σ'.take ps.length).length → (σ'.take ps.length).getD j none = σ'.getD j none := fun j h => by
      rw [List.getD_eq_getElem?_getD, List.getD_eq_getElem?_getD, List.getElem?_take_of_lt (by rw [List.length_take] at h; omega)]
    have g2 : ∀ j, j < (s'.take ps.length).length → (s'.take ps.length).getD j .no = s'.getD j .no := fun j h => by
      rw [List.getD_eq_getElem?_getD, List.getD_eq_getElem?_getD, List.getElem?_take_of_lt (by rw [List.length_take] at h; omega)]
    have hm : (σ'.take ps.length).length = (s'.take ps.length).length := by rw [List.length_take, List.length_take, hl']
    generalize hA : σ'.take ps.length = σt at g1 hm
    generalize hB : s'.take ps.length = st' at g2 hm
    have hle : σt.length ≤ σ'.length := by rw [← hA, List.length_take]; omega
    refine r'.re (fun k => if k < σt.length then some k else if k < σt.length + ts.length then some (k - σt.length + σ'.length) else none) (by simp [hm]; omega) (fun k => ?_) (fun k k' j h h' => ?_)
    · by_cases h1 : k < σt.length
      · simp only [if_pos h1]
        exact ⟨by rw [getD_app_lt (by omega), getD_app_lt (by omega), g2 k (by omega)], by rw [getD_app_lt h1, getD_app_lt (by omega), g1 k h1]⟩
      · simp only [if_neg h1]
        by_cases h2 : k < σt.length + ts.length
        · simp only [if_pos h2]
          refine ⟨?_, ?_⟩
          · rw [getD_app_ge (by omega), getD_app_ge (by omega)]; congr 1; omega
          · rw [getD_app_ge (by omega), getD_app_ge (by omega)]; congr 1; omega
        · simp only [if_neg h2]
          exact .inl (getD_out (by simp; omega))
    · split at h <;> split at h' <;> (try split at h) <;> (try split at h') <;> (try cases h) <;> (try cases h') <;> (try injection h with h) <;> (try injection h' with h') <;> omega
  have tkl : ∀ {Z' H' : Hp} {σ' : St} {s' : S}, Rel X.K Z' Y H' σ' s' → Rel X.K Z' Y H' (σ'.take ps.length) (s'.take ps.length) := fun {Z' H' σ' s'} r' => by
    have := tk (ts := []) (us := []) (by simpa using r') r'.len
    simpa using this
  -- the lent parameters stay in their slots
  have kp : ∀ {σ' : St}, Lv.keeps ⟨fun cls d _ H => E cls d H, io, L2.start N vs⟩ σ' → ∀ k ∈ io, (σ'.take ps.length).getD k none = (vs.map some).getD k none := by
    intro σ' kk k hk
    by_cases hkp : k < ps.length
    · have q := kk.2 k hk
      have q : σ'.getD k none = (L2.start N vs).getD k none := q
      rw [List.getD_eq_getElem?_getD, List.getElem?_take_of_lt hkp, ← List.getD_eq_getElem?_getD, q]
      unfold L2.start
      rw [getD_app_lt (by simp; omega)]
    · rw [getD_out (by rw [List.length_take]; omega), getD_out (by rw [List.length_map]; omega)]
  have stl : (L2.start N vs).length = N.length := by unfold L2.start; simp; omega
  have tl : ∀ {σ' : St}, Lv.keeps ⟨fun cls d _ H => E cls d H, io, L2.start N vs⟩ σ' → (σ'.take ps.length).length = ps.length := fun {σ'} h => by
    have := h.1
    have : σ'.length = (L2.start N vs).length := this
    rw [List.length_take]; omega
  refine ⟨Z, Y, _, _, r0, ⟨rfl, fun _ _ => rfl⟩, hsem, fun σ' H' Z' s' hz kk r' h' => ?_, fun v σ' H' Z' r0' s' hz kk rx h' => ?_, fun _ _ _ _ _ _ _ h' => h'.elim, fun _ _ _ _ _ _ _ h' => h'.elim, fun n C Z' H' σ' s' hz kk r' h' m => ?_⟩
  · exact hq .non H' Z' (σ'.take ps.length) (s'.take ps.length) (.d .none) hz (kp kk) (tl kk) (.d (tkl r') .non) (fun i e => nomatch e) h'
  · have h' : outR r0' s' fun r' s'' => Qf r' (s''.take ps.length) := h'
    have fin : ∀ {s2 : S} {r2 : R}, (∀ i, r2 ≠ .top i) → Rel X.K Z' Y H' (σ' ++ [some v]) (s2 ++ [svR r2]) → σ'.length = s2.length → Qf r2 (s2.take ps.length) → Q v H' := fun {s2 r2} nt rl hl2 hq2 =>
      hq v H' Z' (σ'.take ps.length) (s2.take ps.length) r2 hz (kp kk) (tl kk) ⟨tk rl hl2, by rw [List.length_take, List.length_take, hl2], rfl, .one fun i e => absurd e (nt i)⟩ nt hq2
    cases r0' with
    | d x => exact fin (fun i e => by cases e) rx.rel rx.l1 h'
    | own w => exact fin (fun i e => by cases e) rx.rel rx.l1 h'
    | top i =>
      obtain ⟨hi, hv⟩ := rx.top 0 i rfl
      have his : i < s'.length := by rw [← rx.l1]; exact hi
      refine fin (s2 := s'.set i .no) (r2 := .own (s'.getD i .no)) (fun i e => by cases e) ?_ (by rw [List.length_set]; exact rx.l1) h'
      -- what the slot holds is handed out
      refine rx.rel.re (fun k => if k = σ'.length then some i else if k = i then none else some k) (by have := rx.l1; simp [this]) (fun k => ?_) (fun k k' j h h' => ?_)
      · by_cases hk : k = σ'.length
        · simp only [if_pos hk]
          refine ⟨?_, ?_⟩
          · rw [hk, getD_app_ge (by rw [List.length_set, rx.l1]; exact Nat.le_refl _), List.length_set, rx.l1, Nat.sub_self, getD_app_lt his]; rfl
          · rw [hk, getD_app_ge (Nat.le_refl _), Nat.sub_self, getD_app_lt hi, hv]; rfl
        · simp only [if_neg hk]
          by_cases h0 : k = i
          · simp only [if_pos h0]
            exact .inl (by rw [h0, getD_app_lt (by rw [List.length_set]; exact his), getD_set_self his])
          · simp only [if_neg h0]
            refine ⟨?_, rfl⟩
            have hl1 := rx.l1
            by_cases h1 : k < s'.length
            · rw [getD_app_lt (by rw [List.length_set]; exact h1), getD_app_lt h1, getD_set_ne (Ne.symm h0)]
            · rw [getD_out (by simp; omega), getD_out (by simp; omega)]
      · split at h <;> split at h' <;> (try split at h) <;> (try split at h') <;> (try cases h) <;> (try cases h') <;> (try injection h with h) <;> (try injection h' with h') <;> omega
  · exact hx n C H' Z' (σ'.take ps.length) (s'.take ps.length) hz (kp kk) (tl kk) (tkl r') h' m
theorem okF {q : Str} {st : Stmt} {N : List Str} {io : List Nat} {bd : FS} (F : Fun K x q st f fd) (sco : FnScope N ps (defScope st)) (hnp : ps.length ≤ N.length)
    (hb : ∀ (cdv : Value) (A : Around) (outer : List Env) (s : Shared) (H : Hp) (vs : List V) (E : XK), Room k (A.deeper (envOfC q (defScope st) s.heap.objs.size f cdv)) →
      PFSs (cxOf (L2.CX P w) P w K mg base N q (defScope st) f cdv A outer s H E) ⟨fun cls d _ H => E cls d H, io, L2.start N vs⟩ (defBody st) bd) :
    FnOk P w K mg base (L2.CX P w) (k + 1) f fd ps (liftSp K mg io ps.length (semOf ps.length N.length bd)) := by
  refine F.okX sco (fun vs H Q E ⟨_, _, _, _, _, hl, _⟩ => hl) fun cdv A outer s H vs Q E hr h => ⟨_, hb cdv A outer s H vs E hr, okStart hnp h⟩
end
end Hs
namespace Hs
open PySem
/-- factors whose product may be had; a divisor -/
def okM (i j : Int) : Prop := i.natAbs.log2 + j.natAbs.log2 < 1000000
def okD (j : Int) : Prop := 0 < j ∧ j.natAbs.log2 < 9000
def opAdd : V2 := fun d e Q => match d, e with
  | .int i, .int j => Q (.d (.int (i + j)))
  | .str x, .str y => x.length + y.length ≤ sizeLine ∧ Q (.d (.str (x ++ y)))
  | .list xs, .list ys => xs.length + ys.length ≤ sizeLine ∧ Q (.own (.l (xs ++ ys)))
  | .tuple xs, .tuple ys => xs.length + ys.length ≤ sizeLine ∧ Q (.d (.tuple (xs ++ ys)))
  | _, _ => False
def opSub : V2 := fun d e Q => match d, e with
  | .int i, .int j => Q (.d (.int (i - j)))
  | _, _ => False
def opMul : V2 := fun d e Q => match d, e with
  | .int i, .int j => okM i j ∧ Q (.d (.int (i * j)))
  | .list xs, .int k => -(2 ^ 63) ≤ k ∧ k < 2 ^ 63 ∧ xs.length * k.toNat ≤ sizeLine ∧ Q (.own (.l (List.replicate k.toNat xs).flatten))
  | .tuple xs, .int k => xs ≠ [] ∧ 0 ≤ k ∧ k ≤ 1000 ∧ xs.length ≤ 1000 ∧ Q (.d (.tuple (List.replicate k.toNat xs).flatten))
  | _, _ => False
def opFdiv : V2 := fun d e Q => match d, e with
  | .int i, .int j => okD j ∧ Q (.d (.int (i / j)))
  | _, _ => False
def opMod : V2 := fun d e Q => match d, e with
  | .int i, .int j => 0 < j ∧ Q (.d (.int (i % j)))
  | _, _ => False
def opPow : V2 := fun d e Q => match d, e with
  | .int i, .int j => 0 ≤ j ∧ j ≤ 1000000 ∧ i.natAbs < 2 ^ 64 ∧ Q (.d (.int (i ^ j.toNat)))
  | _, _ => False
def uNeg : V1 := fun d Q => match d with
  | .int i => Q (.d (.int (-i)))
  | _ => False
/-- what is compared: the text's own list as a list -/
def unlit : D → D
  | .dict [(.none, .list xs)] => .list xs
  | d => d
def cEq : V2 := fun d e Q => (∃ x y, d = .str x ∧ e = .str y ∧ Q (.d (.bool (decide (x = y))))) ∨ (SeqAt.shaped (unlit d) = true ∧ SeqAt.shaped (unlit e) = true ∧ Q (.d (.bool (PyData.eqv (unlit d) (unlit e)))))
def cNe : V2 := fun d e Q => (∃ x y, d = .str x ∧ e = .str y ∧ Q (.d (.bool (!decide (x = y))))) ∨ (SeqAt.shaped (unlit d) = true ∧ SeqAt.shaped (unlit e) = true ∧ Q (.d (.bool (!PyData.eqv (unlit d) (unlit e)))))
/-- xs[::-1] -/
def revD : V1 := fun d Q => match d with
  | .list xs => Q (.own (.l xs.reverse))
  | .tuple xs => Q (.d (.tuple xs.reverse))
  | _ => False
def intsOf : List D → Option (List Int)
  | [] => some []
  | .int i :: r => (intsOf r).map (i :: ·)
  | _ => none
def cLt : V2 := fun d e Q => match d, e with
  | .int i, .int j => Q (.d (.bool (decide (i < j))))
  | .tuple xs, .tuple ys => match intsOf xs, intsOf ys with
    | some ns, some ms => Q (.d (.bool (HT.lexLt ns ms)))
    | _, _ => False
  | _, _ => False
def cLe : V2 := fun d e Q => match d, e with
  | .int i, .int j => Q (.d (.bool (decide (i ≤ j))))
  | _, _ => False
def cGt : V2 := fun d e Q => match d, e with
  | .int i, .int j => Q (.d (.bool (decide (j < i))))
  | _, _ => False
def cGe : V2 := fun d e Q => match d, e with
  | .int i, .int j => Q (.d (.bool (decide (j ≤ i))))
  | _, _ => False
def cIn : V2 := fun d e Q => match e with
  | .list xs => SeqAt.shaped d = true ∧ SeqAt.shaped (.list xs) = true ∧ Q (.d (.bool (xs.any fun z => PyData.eqv z d)))
  | .tuple xs => SeqAt.shaped d = true ∧ SeqAt.shaped (.tuple xs) = true ∧ Q (.d (.bool (xs.any fun z => PyData.eqv z d)))
  | _ => False
def cNotIn : V2 := fun d e Q => match e with
  | .list xs => SeqAt.shaped d = true ∧ SeqAt.shaped (.list xs) = true ∧ Q (.d (.bool (!xs.any fun z => PyData.eqv z d)))
  | .tuple xs => SeqAt.shaped d = true ∧ SeqAt.shaped (.tuple xs) = true ∧ Q (.d (.bool (!xs.any fun z => PyData.eqv z d)))
  | _ => False
def isNone : D → Bool
  | .none => true
  | _ => false
def pairOf : D → Option (Int × Int)
  | .tuple [.int i, .int j] => some (i, j)
  | _ => none
def pairsOf : List D → Option (List (Int × Int))
  | [] => some []
  | x :: r => match pairOf x, pairsOf r with
    | some p, some ps => some (p :: ps)
    | _, _ => none
abbrev pairD (p : Int × Int) : D := .tuple [.int p.1, .int p.2]
def ltPr (p q : Int × Int) : Bool := decide (p.1 < q.1) || (p.1 == q.1 && decide (p.2 < q.2))
/-- sorted: of ints, of pairs of ints (a list) -/
def bSortI : VN := fun ds Q => match ds with
  | [.list xs] => match intsOf xs with
    | some ns => ∀ ms : List Int, ms.Perm ns → ms.Pairwise (· ≤ ·) → Q (.own (.l (ms.map .int)))
    | none => False
  | _ => False
def bSortP : VN := fun ds Q => match ds with
  | [.list xs] => match pairsOf xs with
    | some ps => ∀ qs : List (Int × Int), qs.Perm ps → qs.Pairwise (fun p q => ltPr q p = false) → Q (.own (.l (qs.map pairD)))
    | none => False
  | _ => False
def cIs : V2 := fun d e Q => match d, e with
  | d, .none => Q (.d (.bool (isNone d)))
  | .bool a, .bool b => Q (.d (.bool (decide (a = b))))
  | _, _ => False
def cIsNot : V2 := fun d e Q => match d, e with
  | d, .none => Q (.d (.bool (!isNone d)))
  | .bool a, .bool b => Q (.d (.bool (!decide (a = b))))
  | _, _ => False
def ixD : V2 := fun d e Q => match d, e with
  | .list xs, .int i => match L2.atI xs i with
    | some x => Q (.d x)
    | none => False
  | .tuple xs, .int i => match L2.atI xs i with
    | some x => Q (.d x)
    | none => False
  | .str z, .int i => z.length ≤ sizeLine ∧ match L2.atI z.cps.toList i with
    | some c => Q (.d (.str ⟨#[c]⟩))
    | none => False
  | .dict [(.none, .list xs)], .int i => match L2.atI xs i with
    | some x => Q (.d x)
    | none => False
  | _, _ => False
def slD (d : D) (lo hi : Option Int) (Q : R → Prop) : Prop := match d with
  | .list xs => Q (.own (.l (cutL xs lo hi)))
  | .tuple xs => Q (.d (.tuple (cutL xs lo hi)))
  | _ => False
where cutL (xs : List D) (lo hi : Option Int) : List D := (xs.drop (HT.sIx xs.length 0 lo)).take (HT.sIx xs.length xs.length hi - HT.sIx xs.length 0 lo)
def bLen : VN := fun ds Q => match ds with
  | [.list xs] => Q (.d (.int (xs.length : Nat)))
  | [.tuple xs] => Q (.d (.int (xs.length : Nat)))
  | [.str x] => x.length ≤ sizeLine ∧ Q (.d (.int (x.length : Nat)))
  | [.dict [(.none, .list xs)]] => Q (.d (.int (xs.length : Nat)))
  | _ => False
def bAbs : VN := fun ds Q => match ds with
  | [.int i] => Q (.d (.int (if i < 0 then -i else i)))
  | _ => False
def bMax2 : VN := fun ds Q => match ds with
  | [.int i, .int j] => Q (.d (.int (if j > i then j else i)))
  | _ => False
def bMin2 : VN := fun ds Q => match ds with
  | [.int i, .int j] => Q (.d (.int (if j < i then j else i)))
  | _ => False
def bInt : VN := fun ds Q => match ds with
  | [.int i] => Q (.d (.int i))
  | [.bool b] => Q (.d (.int (if b then 1 else 0)))
  | _ => False
def bTuple : VN := fun ds Q => match ds with
  | [.list xs] => Q (.d (.tuple xs))
  | [.tuple xs] => Q (.d (.tuple xs))
  | _ => False
def bList : VN := fun ds Q => match ds with
  | [.list xs] => Q (.own (.l xs))
  | [.tuple xs] => Q (.own (.l xs))
  | _ => False
def boolsOf : List D → Option (List Bool)
  | [] => some []
  | .bool i :: r => (boolsOf r).map (i :: ·)
  | _ => none
def bAll : VN := fun ds Q => match ds with
  | [.list xs] => match boolsOf xs with
    | some bs => Q (.d (.bool (bs.all id)))
    | none => False
  | _ => False
def bAny : VN := fun ds Q => match ds with
  | [.list xs] => match boolsOf xs with
    | some bs => Q (.d (.bool (bs.any id)))
    | none => False
  | _ => False
def bMaxL : VN := fun ds Q => match ds with
  | [.list xs] => match intsOf xs with
    | some ns => 0 < ns.length ∧ ∀ m, m ∈ ns → (∀ y, y ∈ ns → y ≤ m) → Q (.d (.int m))
    | none => False
  | [.tuple xs] => match intsOf xs with
    | some ns => 0 < ns.length ∧ ∀ m, m ∈ ns → (∀ y, y ∈ ns → y ≤ m) → Q (.d (.int m))
    | none => False
  | _ => False
def bMinL : VN := fun ds Q => match ds with
  | [.list xs] => match intsOf xs with
    | some ns => 0 < ns.length ∧ ∀ m, m ∈ ns → (∀ y, y ∈ ns → m ≤ y) → Q (.d (.int m))
    | none => False
  | [.tuple xs] => match intsOf xs with
    | some ns => 0 < ns.length ∧ ∀ m, m ∈ ns → (∀ y, y ∈ ns → m ≤ y) → Q (.d (.int m))
    | none => False
  | _ => False
def isTy : String → D → Bool
  | "int", .int _ => true
  | "int", .bool _ => true
  | "bool", .bool _ => true
  | "tuple", .tuple _ => true
  | "list", .list _ => true
  | "str", .str _ => true
  | "dict", .dict _ => true
  | _, _ => false
def isLit : D → Bool
  | .dict ((.none, .none) :: _) => false
  | .dict ((.none, _) :: _) => true
  | _ => false
def bIs (T : String) : V1 := fun d Q => isLit d = false ∧ Q (.d (.bool (isTy T d)))
end Hs
namespace Hs
open PySem PySem.Spec PyProof.Rows L2
section
variable {X : Cx} {L : Lv} {e a b c : Expr} {es : List Expr} {fa fb fc : FE} {ft fu : FT} {fr : FA} {pos p : Pos}
variable {K : PySem.W.Frag} {Z H : Hp}
theorem add_lists {pins : List (Addr × Obj)} {s : Shared} {σ : St} {H : Hp} {l b : Addr} {xs zs : List V} {Q : VK} (I : Inv X pins σ H s) (hH : Rd H l (.lst xs)) (hB : Rd H b (.lst zs)) (hz : xs.length + zs.length ≤ sizeLine) (q : ∀ p, H p = none → Q (.ref p) (upd H p (.lst (xs ++ zs)))) :
    wpAny (model X.prog X.w) X.A (binaryOp .Add (.ref l) (.ref b)) (EP X pins σ Q) X.xe s := by
  obtain ⟨hl, its, n, r, e⟩ := hH.ok I.hok
  obtain ⟨hl2, its2, n2, r2, e2⟩ := hB.ok I.hok
  have h1 := r.length
  have h2 := r2.length
  refine PySem.P.add_list e e2 ?g ?z
  case z => simp only [List.size_toArray]; omega
  have ea : its.toArray ++ its2.toArray = (its ++ its2).toArray := by simp
  rw [ea]
  exact ⟨.ref _, _, I.lnew (t' := s.toks) (r.append r2) (by rw [List.length_append]; omega), rfl, q _ I.fresh⟩
theorem fop_add : OpR X (binaryOp .Add) (rF2 X.K opAdd) := by
  intro pins s σ H x y v u Q I rx ry ⟨Z, d, e, Qf, hz, hd, he, g, q⟩
  unfold opAdd at g
  split at g
  · cases hd.int; cases he.int
    exact op_add pins s σ H _ _ v u Q I rx ry ⟨_, _, rfl, rfl, q _ H Z _ (.d hz (.int _)) g⟩
  · cases hd.str; cases he.str
    exact op_add_str pins s σ H _ _ v u Q I rx ry ⟨_, _, rfl, rfl, g.1, q _ H Z _ (.d hz (.str _)) g.2⟩
  · obtain ⟨p, vs, rfl, h1, h2, h3⟩ := hd.list hz
    obtain ⟨p', vs', rfl, h1', h2', h3'⟩ := he.list hz
    cases rx; cases ry
    have l1 := h3.length
    have l2 := h3'.length
    exact add_lists I h1 h1' (by omega) fun n hn => q _ _ Z _ (.lst hz hn (by rw [List.length_append]; omega) (h3.append h3')) g.2
  · obtain ⟨p, vs, rfl, h1, h2, h3⟩ := hd.tuple hz
    obtain ⟨p', vs', rfl, h1', h2', h3'⟩ := he.tuple hz
    have l1 := h3.length
    have l2 := h3'.length
    refine op_catA pins s σ H _ _ v u Q I rx ry ⟨p, p', vs, vs', rfl, rfl, h1, h1', by omega, fun e => ?_, fun e1 e2 => ?_, fun e1 e2 n hn => ?_⟩
    · subst e
      cases h3
      have ez : Rp X.K Z (.ref p') (.tuple _) := RpV.tupZ he
      exact q _ H Z _ (.d hz ez) g.2
    · subst e2
      cases h3'
      have ez : Rp X.K Z (.ref p) (.tuple _) := RpV.tupZ hd
      rw [List.append_nil] at g
      exact q _ H Z _ (.d hz ez) g.2
    · exact q _ _ _ _ (.tup hz hn (by rw [List.length_append]; omega) (h3.append h3')) g.2
  · exact g.elim
where
  RpV.tupZ {K : PySem.W.Frag} {Z H : Hp} {v : V} {xs : List D} (r : RpV K Z H v (.tuple xs)) : Rp K Z v (.tuple xs) := by
    rcases r with r | ⟨p, vs, xs', rfl, e2, h, z, a⟩ | ⟨p, kvs, rfl, e2, h⟩
    · exact r
    · cases e2
    · cases e2
theorem fop_sub : OpR X (binaryOp .Sub) (rF2 X.K opSub) := by
  intro pins s σ H x y v u Q I rx ry ⟨Z, d, e, Qf, hz, hd, he, g, q⟩
  unfold opSub at g
  split at g
  · cases hd.int; cases he.int
    exact op_sub pins s σ H _ _ v u Q I rx ry ⟨_, _, rfl, rfl, q _ H Z _ (.d hz (.int _)) g⟩
  · exact g.elim
theorem rep_list {pins : List (Addr × Obj)} {s : Shared} {σ : St} {H : Hp} {l : Addr} {k : Int} {t : Tok} {xs : List V} {Q : VK} (I : Inv X pins σ H s) (hH : Rd H l (.lst xs)) (h1 : -(2 ^ 63) ≤ k) (h2 : k < 2 ^ 63) (hz : xs.length * k.toNat ≤ sizeLine) (q : ∀ p, H p = none → Q (.ref p) (upd H p (.lst (List.replicate k.toNat xs).flatten))) :
    wpAny (model X.prog X.w) X.A (binaryOp .Mult (.ref l) (.int k t)) (EP X pins σ Q) X.xe s := by
  obtain ⟨_, its, n, r, e⟩ := hH.ok I.hok
  have hl := r.length
  have hlen : its.toArray.size * k.toNat ≤ sizeLine := by rw [List.size_toArray, ← hl]; exact hz
  have hcap : ¬ its.toArray.size * k.toNat > (2 ^ 63 - 1) / 8 := by
    have : (sizeLine : Nat) ≤ (2 ^ 63 - 1) / 8 := by decide
    omega
  have hfit : ¬ (!Builtin.List.listFitsIndex k) = true := by
    rw [fitsIndex_both h1 h2]
    exact Bool.false_ne_true
  have hlong : ¬ Builtin.List.listTooLong (its.toArray.size * k.toNat) = true := by
    rw [notLongL hlen]
    exact Bool.false_ne_true
  have hnew : List.foldl (fun x1 x2 => x1 ++ x2) #[] (List.replicate (if its.toArray.isEmpty = true then 0 else k.toNat) its.toArray) = (List.replicate k.toNat its).flatten.toArray := by
    have f0 : ∀ m : Nat, List.foldl (fun x1 x2 => x1 ++ x2) #[] (List.replicate m its.toArray) = (List.replicate m its).flatten.toArray := fun m => by
      have := foldl_rep its m []
      rw [List.nil_append] at this
      exact this
    rw [f0]
    cases its with
    | nil => simp
    | cons a r' => rw [if_neg (by simp)]
  refine wpAny_binaryOp_repeat_ref (T := "list") (U := "int") (by decide) ⟨_, e, rfl⟩ (fun s' => typeIs_int s' k t) noFill_list_mul F.fills_int_mul F.slot_int_rmul repeat_list F.slot_int_index.lookup
    (call_meets F.slot_int_rmul (typeIs_int s k t) F.entry_int_rmul (F.args_int_rmul_2 _ _) (int___rmul___int_list k t l its.toArray n)
      ⟨e, rfl, ⟨_, e, rfl⟩, call_meets F.slot_list_mul ⟨_, e, rfl⟩ F.entry_list_mul (F.args_list_mul_2 _ _) (AutoListH.list___mul___list_int_3 l its.toArray n k t hfit hcap hlong) ⟨e, ?_⟩⟩)
  rw [hnew]
  exact ⟨.ref _, _, I.lnew (t' := s.toks) (r.rep k.toNat) (by rw [PyProof.Rows.lm_len_rep_flat, Nat.mul_comm]; exact hz), rfl, q _ I.fresh⟩
theorem tmul_one (l : Addr) (items : Array Value) (n : Nat) (dd : Option Addr) (sl : Array (Option Value)) (u : Tok) :
    Meets (Builtin.«tuple.__mul__» ⟨[.ref l, .int 1 u], []⟩) (fun _ R s => s.heap.get? l = some { cls := .type "tuple", dict := dd, data := .seq items n, slots := sl } ∧ R (.ok (.ret (Value.ref l))) s) :=
  .of_wp fun prog w A R s h => by
    obtain ⟨hp, g, d, tk, os⟩ := s
    obtain ⟨hl, h⟩ := h
    have f1 := AutoSeq1.idx_int
    wp_walk using wpAny_loadPart' hl
    repeat (first
      | (refine wpAny_ite_true (by simp) ?_; wp_walk using wpAny_loadPart' hl)
      | (refine wpAny_ite_false (by simp) ?_; wp_walk using wpAny_loadPart' hl))
    exact ⟨_, rfl, h⟩
theorem tmul_none (l : Addr) (items : Array Value) (n : Nat) (dd : Option Addr) (sl : Array (Option Value)) (u : Tok) (hne : items.isEmpty = false) :
    Meets (Builtin.«tuple.__mul__» ⟨[.ref l, .int 0 u], []⟩) (fun _ R s => s.heap.get? l = some { cls := .type "tuple", dict := dd, data := .seq items n, slots := sl } ∧
      R (.ok (.ret (Value.ref s.heap.objs.size))) { s with heap := s.heap.push { cls := Value.type "tuple", data := Data.seq #[] }, toks := s.toks }) :=
  .of_wp fun prog w A R s h => by
    obtain ⟨hp, g, d, tk, os⟩ := s
    obtain ⟨hl, h⟩ := h
    have f1 := AutoSeq1.idx_int
    have z0 : (#[] : Array Value).size ≤ sizeLine := Nat.zero_le _
    wp_walk using wpAny_loadPart' hl
    repeat (first
      | (refine wpAny_ite_true (by simp [hne]) ?_; wp_walk using wpAny_loadPart' hl)
      | (refine wpAny_ite_false (by simp [hne]) ?_; wp_walk using wpAny_loadPart' hl))
    exact ⟨_, rfl, h⟩
theorem rep_tuple {pins : List (Addr × Obj)} {s : Shared} {σ : St} {H : Hp} {l : Addr} {k : Int} {t : Tok} {xs : List V} {Q : VK} (I : Inv X pins σ H s) (hT : SqT X.K H l xs) (hne : xs ≠ []) (hk : k = 0 ∨ k = 1) (q1 : k = 1 → Q (.ref l) H) (q0 : k = 0 → ∀ p, H p = none → Q (.ref p) (upd H p (.tup []))) :
    wpAny (model X.prog X.w) X.A (binaryOp .Mult (.ref l) (.int k t)) (EP X pins σ Q) X.xe s := by
  obtain ⟨its, r, ⟨⟨cls, dd, data, sl⟩, ho, hc, n, hd⟩, hs⟩ := I.tuple hT
  simp only at hc hd
  subst hc hd
  have full : its.toArray.isEmpty = false := by
    cases r with
    | nil => exact absurd rfl hne
    | cons _ _ => rfl
  refine wpAny_binaryOp_repeat_ref (T := "tuple") (U := "int") (by decide) ⟨_, ho, rfl⟩ (fun s' => typeIs_int s' k t) noFill_tuple_mul F.fills_int_mul F.slot_int_rmul repeat_tuple F.slot_int_index.lookup ?_
  refine call_meets F.slot_int_rmul (typeIs_int s k t) F.entry_int_rmul (F.args_int_rmul_2 _ _) (int_rmul_tuple k t l its.toArray n dd sl) ⟨ho, rfl, ⟨_, ho, rfl⟩, ?_⟩
  rcases hk with rfl | rfl
  · refine call_meets F.slot_tuple_mul ⟨_, ho, rfl⟩ F.entry_tuple_mul (F.args_tuple_mul_2 _ _) (tmul_none l its.toArray n dd sl t full) ⟨ho, ?_⟩
    exact ⟨.ref s.heap.objs.size, _, I.laid (t' := s.toks) (o := .tup []) (fun b ob q => Heap.get?_push_of_some _ q) (Nat.le_refl _) ⟨Nat.zero_le _, [], .nil, IsTup.new _ _⟩, rfl, q0 rfl _ (I.hok.fresh (Nat.le_refl _))⟩
  · refine call_meets F.slot_tuple_mul ⟨_, ho, rfl⟩ F.entry_tuple_mul (F.args_tuple_mul_2 _ _) (tmul_one l its.toArray n dd sl t) ⟨ho, ?_⟩
    exact ⟨.ref l, H, I, rfl, q1 rfl⟩
theorem fop_mul : OpR X (binaryOp .Mult) (rF2 X.K opMul) := by
  intro pins s σ H x y v u Q I rx ry ⟨Z, d, e, Qf, hz, hd, he, g, q⟩
  unfold opMul at g
  split at g
  · cases hd.int; cases he.int
    exact op_mulW pins s σ H _ _ v u Q I rx ry ⟨_, _, rfl, rfl, g.1, q _ H Z _ (.d hz (.int _)) g.2⟩
  · obtain ⟨p, vs, rfl, h1, h2, h3⟩ := hd.list hz
    cases he.int
    cases rx
    obtain ⟨t, rfl⟩ := ry
    have l1 := h3.length
    have rr : ∀ n : Nat, RpAll X.K Z (List.replicate n vs).flatten (List.replicate n _).flatten := fun n => by
      induction n with
      | zero => exact .nil
      | succ n ih => rw [List.replicate_succ, List.flatten_cons, List.replicate_succ, List.flatten_cons]; exact h3.append ih
    refine rep_list I h1 g.1 g.2.1 (by rw [l1]; exact g.2.2.1) fun n hn => q _ _ Z _ (.lst hz hn ?_ (rr _)) g.2.2.2
    rw [(rr _).length, List.length_flatten, List.map_replicate, List.sum_replicate_nat, Nat.mul_comm]
    exact g.2.2.1
  · obtain ⟨g1, g2, g3, g4, g5⟩ := g
    obtain ⟨p, vs, rfl, h1, h2, h3⟩ := hd.tuple hz
    have ez : Rp X.K Z (.ref p) (.tuple _) := fop_add.RpV.tupZ hd
    cases he.int
    have l1 := h3.length
    have rr : ∀ n : Nat, RpAll X.K Z (List.replicate n vs).flatten (List.replicate n _).flatten := fun n => by
      induction n with
      | zero => exact .nil
      | succ n ih => rw [List.replicate_succ, List.flatten_cons, List.replicate_succ, List.flatten_cons]; exact h3.append ih
    have hne : vs ≠ [] := fun e => g1 (List.eq_nil_of_length_eq_zero (by rw [← l1, e]; rfl))
    rename_i k
    by_cases hk : k = 0 ∨ k = 1
    · obtain ⟨t, rfl⟩ := ry
      cases rx
      refine rep_tuple I h1 hne hk (fun e => ?_) fun e n hn => ?_
      · subst e
        rw [show (List.replicate (1 : Int).toNat _).flatten = _ from List.append_nil _] at g5
        exact q _ H Z _ (.d hz ez) g5
      · subst e
        exact q _ _ _ _ (.tup hz hn (Nat.zero_le _) .nil) g5
    · refine op_repT pins s σ H _ _ v u Q I rx ry ⟨p, k, vs, rfl, rfl, h1, hne, by omega, g3, by omega, fun n hn => ?_⟩
      refine q _ _ _ _ (.tup hz hn ?_ (rr _)) g5
      rw [(rr _).length, List.length_flatten, List.map_replicate, List.sum_replicate_nat]
      show _ ≤ 16777216
      have a1 : k.toNat * _ ≤ 1000 * 1000 := Nat.mul_le_mul (by omega) g4
      omega
  · exact g.elim
theorem fop_fdiv : OpR X (binaryOp .FloorDiv) (rF2 X.K opFdiv) := by
  intro pins s σ H x y v u Q I rx ry ⟨Z, d, e, Qf, hz, hd, he, g, q⟩
  unfold opFdiv at g
  split at g
  · cases hd.int; cases he.int
    exact op_fdivW pins s σ H _ _ v u Q I rx ry ⟨_, _, rfl, rfl, g.1, q _ H Z _ (.d hz (.int _)) g.2⟩
  · exact g.elim
theorem fop_mod : OpR X (binaryOp .Mod) (rF2 X.K opMod) := by
  intro pins s σ H x y v u Q I rx ry ⟨Z, d, e, Qf, hz, hd, he, g, q⟩
  unfold opMod at g
  split at g
  · cases hd.int; cases he.int
    refine op_modN pins s σ H _ _ v u Q I rx ry ⟨_, _, rfl, rfl, by have := g.1; omega, ?_⟩
    have g1 := g.1
    show Q (.int (Int.fmod _ _)) H
    rw [Int.fmod_eq_emod_of_nonneg _ (by omega)]
    exact q _ H Z _ (.d hz (.int _)) g.2
  · exact g.elim
theorem fop_pow : OpR X (binaryOp .Pow) (rF2 X.K opPow) := by
  intro pins s σ H x y v u Q I rx ry ⟨Z, d, e, Qf, hz, hd, he, g, q⟩
  unfold opPow at g
  split at g
  · cases hd.int; cases he.int
    exact op_pow pins s σ H _ _ v u Q I rx ry ⟨_, _, rfl, rfl, ⟨g.1, g.2.1, g.2.2.1⟩, q _ H Z _ (.d hz (.int _)) g.2.2.2⟩
  · exact g.elim
theorem fun_neg : UnR X (unaryOp .USub) (rF1 X.K uNeg) := by
  intro pins s σ H x v Q I rx ⟨Z, d, Qf, hz, hd, g, q⟩
  unfold uNeg at g
  split at g
  · cases hd.int
    exact un_neg pins s σ H _ v Q I rx ⟨_, rfl, q _ H Z _ (.d hz (.int _)) g⟩
  · exact g.elim
mutual
theorem Rp.dp : ∀ (d : PyData) (v : V), d.canLay0 = true → Rp K H v d → Dp K H v d
  | .none, _, _, .non => .non
  | .bool _, _, _, .bl b => .bl b
  | .int _, _, _, .int i => .int i
  | .str _, _, _, .str x => .str x
  | .list ds, _, h, .lst q z a => .lst (.inl q) (RpAll.dp ds _ (by simpa [PyData.canLay0] using h) a)
  | .tuple ds, _, h, .tup q z a => .tup (tupSq q) (RpAll.dp ds _ (by simpa [PyData.canLay0] using h) a)
  | .dict _, _, h, _ => by simp [PyData.canLay0] at h
theorem RpAll.dp : ∀ (ds : List PyData) (vs : List V), PyData.canLayAll0 ds = true → RpAll K H vs ds → DpAll K H vs ds
  | [], _, _, .nil => .nil
  | d :: ds, _, h, .cons r a => by
    have h' : d.canLay0 = true ∧ PyData.canLayAll0 ds = true := by simpa [PyData.canLayAll0] using h
    exact .cons (Rp.dp d _ h'.1 r) (RpAll.dp ds _ h'.2 a)
end
theorem RpV.dp {v : V} {d : D} (r : RpV K Z H v d) (e : Same Z H) (h : SeqAt.shaped d = true) : Dp K H v d := Rp.dp d v (SeqAt.canLay_of_shaped h) (r.rp e)
theorem RpV.dpU {v : V} {d : D} (r : RpV K Z H v d) (e : Same Z H) (h : SeqAt.shaped (unlit d) = true) : Dp K H v (unlit d) := by
  revert h
  unfold unlit
  split
  · rename_i xs
    intro h
    obtain ⟨p, ns, rfl, rfl, h1, h2⟩ := r.lit e
    exact .lst h1 (dpInts ns)
  · intro h
    exact r.dp e h
where dpInts : ∀ ns : List Int, DpAll K H (ns.map V.int) (ns.map PyData.int)
  | [] => .nil
  | n :: ns => .cons (.int n) (dpInts ns)
theorem fop_eq (hu : X.A.units + 64 < cLine) : OpR X (compareOp .Eq) (rF2 X.K cEq) := by
  intro pins s σ H x y v u Q I rx ry ⟨Z, d, e, Qf, hz, hd, he, g, q⟩
  rcases g with ⟨z, z', rfl, rfl, g⟩ | ⟨g1, g2, g⟩
  · cases hd.str; cases he.str
    refine op_eq pins s σ H _ _ v u Q I rx ry ⟨rfl, ?_⟩
    rw [show decide (V.str z = V.str z') = decide (z = z') by simp]
    exact q _ H Z _ (.d hz (.bl _)) g
  exact op_eqD hu pins s σ H x y v u Q I rx ry ⟨_, _, hd.dpU hz g1, he.dpU hz g2, g1, g2, q _ H Z _ (.d hz (.bl _)) g⟩
theorem fop_ne (hu : X.A.units + 64 < cLine) : OpR X (compareOp .NotEq) (rF2 X.K cNe) := by
  intro pins s σ H x y v u Q I rx ry ⟨Z, d, e, Qf, hz, hd, he, g, q⟩
  rcases g with ⟨z, z', rfl, rfl, g⟩ | ⟨g1, g2, g⟩
  · cases hd.str; cases he.str
    refine op_ne pins s σ H _ _ v u Q I rx ry ⟨rfl, ?_⟩
    rw [show decide (V.str z = V.str z') = decide (z = z') by simp]
    exact q _ H Z _ (.d hz (.bl _)) g
  exact op_neD hu pins s σ H x y v u Q I rx ry ⟨_, _, hd.dpU hz g1, he.dpU hz g2, g1, g2, q _ H Z _ (.d hz (.bl _)) g⟩
theorem intsOf_eq : ∀ {xs : List D} {ns : List Int}, intsOf xs = some ns → xs = ns.map PyData.int
  | [], ns, h => by cases h; rfl
  | x :: xs, ns, h => by
    cases x with
    | int i =>
      unfold intsOf at h
      cases e : intsOf xs with
      | none => rw [e] at h; cases h
      | some ms =>
        rw [e] at h
        cases h
        rw [intsOf_eq e]; rfl
    | _ => unfold intsOf at h; cases h
theorem boolsOf_eq : ∀ {xs : List D} {ns : List Bool}, boolsOf xs = some ns → xs = ns.map PyData.bool
  | [], ns, h => by cases h; rfl
  | x :: xs, ns, h => by
    cases x with
    | bool i =>
      unfold boolsOf at h
      cases e : boolsOf xs with
      | none => rw [e] at h; cases h
      | some ms =>
        rw [e] at h
        cases h
        rw [boolsOf_eq e]; rfl
    | _ => unfold boolsOf at h; cases h
theorem fop_lt (hu : X.A.units < cLine) : OpR X (compareOp .Lt) (rF2 X.K cLt) := by
  intro pins s σ H x y v u Q I rx ry ⟨Z, d, e, Qf, hz, hd, he, g, q⟩
  unfold cLt at g
  split at g
  · cases hd.int; cases he.int
    exact op_lt pins s σ H _ _ v u Q I rx ry ⟨_, _, rfl, rfl, q _ H Z _ (.d hz (.bl _)) g⟩
  · split at g
    · rename_i ns ms e1 e2
      obtain ⟨p, vs, rfl, h1, h2, h3⟩ := hd.tuple hz
      obtain ⟨p', vs', rfl, h1', h2', h3'⟩ := he.tuple hz
      rw [intsOf_eq e1] at h3
      rw [intsOf_eq e2] at h3'
      rw [h3.ints] at h1
      rw [h3'.ints] at h1'
      exact op_ltT hu pins s σ H _ _ v u Q I rx ry ⟨p, p', ns, ms, rfl, rfl, h1, h1', q _ H Z _ (.d hz (.bl _)) g⟩
    · exact g.elim
  · exact g.elim
theorem fop_le : OpR X (compareOp .LtE) (rF2 X.K cLe) := by
  intro pins s σ H x y v u Q I rx ry ⟨Z, d, e, Qf, hz, hd, he, g, q⟩
  unfold cLe at g
  split at g
  · cases hd.int; cases he.int
    exact op_le pins s σ H _ _ v u Q I rx ry ⟨_, _, rfl, rfl, q _ H Z _ (.d hz (.bl _)) g⟩
  · exact g.elim
theorem fop_gt : OpR X (compareOp .Gt) (rF2 X.K cGt) := by
  intro pins s σ H x y v u Q I rx ry ⟨Z, d, e, Qf, hz, hd, he, g, q⟩
  unfold cGt at g
  split at g
  · cases hd.int; cases he.int
    exact op_gt pins s σ H _ _ v u Q I rx ry ⟨_, _, rfl, rfl, q _ H Z _ (.d hz (.bl _)) g⟩
  · exact g.elim
theorem fop_ge : OpR X (compareOp .GtE) (rF2 X.K cGe) := by
  intro pins s σ H x y v u Q I rx ry ⟨Z, d, e, Qf, hz, hd, he, g, q⟩
  unfold cGe at g
  split at g
  · cases hd.int; cases he.int
    exact op_ge pins s σ H _ _ v u Q I rx ry ⟨_, _, rfl, rfl, q _ H Z _ (.d hz (.bl _)) g⟩
  · exact g.elim
theorem fop_in (hu : X.A.units + 65 < cLine) : OpR X (compareOp .In) (rF2 X.K cIn) := by
  intro pins s σ H x y v u Q I rx ry ⟨Z, d, e, Qf, hz, hd, he, g, q⟩
  unfold cIn at g
  split at g
  · exact op_inD hu pins s σ H _ _ v u Q I rx ry ⟨d, _, hd.dp hz g.1, he.dp hz g.2.1, g.1, g.2.1, q _ H Z _ (.d hz (.bl _)) g.2.2⟩
  · obtain ⟨as, r1⟩ := Dp.reads I d x v (hd.dp hz g.1) rx
    obtain ⟨bs, r2⟩ := Dp.reads I _ y u (he.dp hz g.2.1) ry
    exact SeqAt.in_tuple_reads r2 r1 (by have := SeqAt.canLay_of_shaped g.2.1; simpa [PyData.canLay0] using this) (SeqAt.canLay_of_shaped g.1) (room_in_shaped g.1 hu) ⟨.bl _, H, I, rfl, q _ H Z _ (.d hz (.bl _)) g.2.2⟩
  · exact g.elim
theorem fop_notIn (hu : X.A.units + 65 < cLine) : OpR X (compareOp .NotIn) (rF2 X.K cNotIn) := by
  intro pins s σ H x y v u Q I rx ry ⟨Z, d, e, Qf, hz, hd, he, g, q⟩
  unfold cNotIn at g
  split at g
  · exact op_notInD hu pins s σ H _ _ v u Q I rx ry ⟨d, _, hd.dp hz g.1, he.dp hz g.2.1, g.1, g.2.1, q _ H Z _ (.d hz (.bl _)) g.2.2⟩
  · obtain ⟨as, r1⟩ := Dp.reads I d x v (hd.dp hz g.1) rx
    obtain ⟨bs, r2⟩ := Dp.reads I _ y u (he.dp hz g.2.1) ry
    exact SeqAt.notIn_tuple_reads r2 r1 (by have := SeqAt.canLay_of_shaped g.2.1; simpa [PyData.canLay0] using this) (SeqAt.canLay_of_shaped g.1) (room_in_shaped g.1 hu) ⟨.bl _, H, I, rfl, q _ H Z _ (.d hz (.bl _)) g.2.2⟩
  · exact g.elim
theorem rp_none {v : V} {d : D} (r : Rp K H v d) : decide (v = .non) = isNone d := by cases r <;> rfl
theorem fop_is : OpR X (compareOp .Is) (rF2 X.K cIs) := by
  intro pins s σ H x y v u Q I rx ry ⟨Z, d, e, Qf, hz, hd, he, g, q⟩
  unfold cIs at g
  split at g
  · cases he.non
    refine op_isN pins s σ H _ _ v u Q I rx ry ⟨rfl, ?_⟩
    rw [rp_none (hd.rp hz)]
    exact q _ H Z _ (.d hz (.bl _)) g
  · cases hd.bool; cases he.bool
    exact op_is_bl pins s σ H _ _ v u Q I rx ry ⟨_, _, rfl, rfl, q _ H Z _ (.d hz (.bl _)) g⟩
  · exact g.elim
theorem fop_isNot : OpR X (compareOp .IsNot) (rF2 X.K cIsNot) := by
  intro pins s σ H x y v u Q I rx ry ⟨Z, d, e, Qf, hz, hd, he, g, q⟩
  unfold cIsNot at g
  split at g
  · cases he.non
    refine op_notN pins s σ H _ _ v u Q I rx ry ⟨rfl, ?_⟩
    rw [rp_none (hd.rp hz)]
    exact q _ H Z _ (.d hz (.bl _)) g
  · cases hd.bool; cases he.bool
    exact op_isnot_bl pins s σ H _ _ v u Q I rx ry ⟨_, _, rfl, rfl, q _ H Z _ (.d hz (.bl _)) g⟩
  · exact g.elim
theorem RpAll.atI {vs : List V} {ds : List D} {i : Int} {d : D} (r : RpAll K Z vs ds) (e : L2.atI ds i = some d) : ∃ v, L2.atI vs i = some v ∧ Rp K Z v d := by
  unfold L2.atI at e ⊢
  rw [r.length]
  cases h : ixN ds.length i with
  | none => rw [h] at e; cases e
  | some j => rw [h] at e; exact r.get e
theorem fix_d : IxR X (rF2 X.K ixD) := by
  intro value slice pins s σ H x y v u Q I rx ry ⟨Z, d, e, Qf, hz, hd, he, g, q⟩ hpl
  unfold ixD at g
  split at g
  · split at g
    · obtain ⟨p, vs, rfl, h1, h2, h3⟩ := hd.list hz
      cases he.int
      obtain ⟨w, hw, rw'⟩ := h3.atI (by assumption)
      exact ix_list value slice pins s σ H _ _ v u Q I rx ry ⟨p, vs, _, w, rfl, rfl, .inl h1, hw, q _ H Z _ (.d hz rw') g⟩ hpl
    · exact g.elim
  · split at g
    · obtain ⟨p, vs, rfl, h1, h2, h3⟩ := hd.tuple hz
      cases he.int
      obtain ⟨w, hw, rw'⟩ := h3.atI (by assumption)
      exact ix_tup value slice pins s σ H _ _ v u Q I rx ry ⟨p, vs, _, w, rfl, rfl, h1, hw, q _ H Z _ (.d hz rw') g⟩ hpl
    · exact g.elim
  · obtain ⟨g1, g2⟩ := g
    split at g2
    · cases hd.str
      cases he.int
      exact ix_str value slice pins s σ H _ _ v u Q I rx ry ⟨_, _, _, rfl, rfl, g1, by assumption, q _ H Z _ (.d hz (.str _)) g2⟩ hpl
    · exact g2.elim
  · split at g
    · obtain ⟨p, ns, rfl, rfl, h1, h2⟩ := hd.lit hz
      cases he.int
      rename_i x heq
      obtain ⟨w, hw, rz⟩ := RpAll.atI (RpAll.of_ints (K := X.K) (H := Z) ns) heq
      exact ix_list value slice pins s σ H _ _ v u Q I rx ry ⟨p, _, _, w, rfl, rfl, h1, hw, q _ H Z _ (.d hz rz) g⟩ hpl
    · exact g.elim
  · exact g.elim
end
end Hs
namespace Hs
open PySem PySem.Spec PyProof.Rows L2
section
variable {prog : Program} {w : World} {A : Around} {E : Value → Shared → Prop} {s : Shared} {l : Addr}
theorem iter_intTuple {xs : Array (Int × Tok)} {Q : Value → Shared → Prop} (hl : s.heap.IsTuple l (intItems xs))
    (h : ∀ s₂ : Shared, s₂ = { s with heap := s.heap.push { cls := .type "tuple_iterator", data := .fields #[.ref l, .int 0 0] } } →
      (s₂.heap.IsTupleIter s.heap.objs.size l 0 ∧ s₂.heap.IsTuple l (intItems xs)) → (∀ b ∈ [s.heap.objs.size, l], b < s₂.heap.objs.size) → l ≠ s.heap.objs.size → Q (.ref s.heap.objs.size) s₂) :
    wpAny (model prog w) A (pyIter (.ref l)) Q E s := by
  have hlt : l < s.heap.objs.size := by obtain ⟨_, e, _⟩ := hl; exact Heap.lt_size e
  refine wpAny_pyIter_tuple hl (h _ rfl ⟨⟨_, Heap.get?_push_size _ rfl, rfl, rfl⟩, hl.push _⟩ (fun b hb => ?_) (Nat.ne_of_lt hlt))
  show b < (s.heap.push _).objs.size
  rw [Heap.size_push]
  rcases List.mem_cons.mp hb with rfl | hb
  · exact Nat.lt_succ_self _
  · rcases List.mem_cons.mp hb with rfl | hb
    · exact Nat.lt_succ_of_lt hlt
    · cases hb
theorem old_keptT {h' : Heap} (hk : ∀ b o, b ∉ [s.heap.objs.size] → (s.heap.push { cls := .type "tuple_iterator", data := .fields #[.ref l, .int 0 0] }).get? b = some o → h'.get? b = some o) :
    ∀ b o, s.heap.get? b = some o → h'.get? b = some o := fun b o e => by
  refine hk b o (fun hm => ?_) (Heap.get?_push_of_some _ e)
  rcases List.mem_cons.mp hm with e1 | hm
  · exact absurd (e1 ▸ Heap.lt_size e) (Nat.lt_irrefl _)
  · cases hm
theorem max_intTuple {xs : Array (Int × Tok)} {Q : Value → Shared → Prop} (hh : A.handled = none) (hl : s.heap.IsTuple l (intItems xs)) (hne : 0 < xs.size)
    (h : ∀ v h' tk, (intItems xs)[argBest (fun i j => decide (numAt xs i > numAt xs j)) (xs.size - 1)]? = some v → (∀ b o, s.heap.get? b = some o → h'.get? b = some o) → Q v { s with heap := h', toks := tk }) :
    wpAny (model prog w) A (call (.builtin "max") [.ref l]) Q E s := by
  refine call_max_walk (iter_intTuple hl fun s₂ e st hfp hlI => ?_)
  subst e
  refine ⟨_, _, _, _, _, _, _, rfl, PySem.Walks.tuple (A := A.in1) hh _ l hlI (intItems xs), st, hfp, by simpa [intItems] using hne, CmpOf.ints_gt (numAt xs) (fun _ _ => intItems_at), fun v h' tk hP hk => ?_⟩
  exact h v h' tk (by simpa [intItems] using hP) (old_keptT hk)
theorem max_rawT {its : List Value} {ns : List Int} {Q : Value → Shared → Prop} (hh : A.handled = none) (hl : s.heap.IsTuple l its.toArray) (hi : IntsAre its ns) (hne : 0 < ns.length)
    (h : ∀ h' tk M t', (∀ b o, s.heap.get? b = some o → h'.get? b = some o) → M ∈ ns → (∀ a, a ∈ ns → a ≤ M) → Q (.int M t') { s with heap := h', toks := tk }) : wpAny (model prog w) A (call (.builtin "max") [.ref l]) Q E s := by
  obtain ⟨xs, e⟩ := hi.allInts.items
  have hn : numsOf (intItems xs).toList = ns := by rw [← e]; exact hi.numsOf
  rw [nums_intItems] at hn
  subst hn
  rw [e] at hl
  have hsz : 0 < xs.size := by simpa using hne
  refine max_intTuple hh hl hsz fun v h' tk hv hk => ?_
  obtain ⟨t, rfl⟩ := intItems_at hv
  obtain ⟨h1, h2⟩ := argBest_gt (numAt xs) (xs.size - 1)
  refine h h' tk _ t hk ?_ fun a ha => ?_
  · rw [numAt_eq]; exact PySem.getD_mem (by rw [List.length_map, Array.length_toList]; omega)
  · obtain ⟨j, hj, rfl⟩ := mem_getD ha
    rw [List.length_map, Array.length_toList] at hj
    rw [← numAt_eq]; exact h2 j (by omega)
theorem min_intTuple {xs : Array (Int × Tok)} {Q : Value → Shared → Prop} (hh : A.handled = none) (hl : s.heap.IsTuple l (intItems xs)) (hne : 0 < xs.size)
    (h : ∀ v h' tk, (intItems xs)[argBest (fun i j => decide (numAt xs i < numAt xs j)) (xs.size - 1)]? = some v → (∀ b o, s.heap.get? b = some o → h'.get? b = some o) → Q v { s with heap := h', toks := tk }) :
    wpAny (model prog w) A (call (.builtin "min") [.ref l]) Q E s := by
  refine call_min_walk (iter_intTuple hl fun s₂ e st hfp hlI => ?_)
  subst e
  refine ⟨_, _, _, _, _, _, _, rfl, PySem.Walks.tuple (A := A.in1) hh _ l hlI (intItems xs), st, hfp, by simpa [intItems] using hne, CmpOf.ints_lt (numAt xs) (fun _ _ => intItems_at), fun v h' tk hP hk => ?_⟩
  exact h v h' tk (by simpa [intItems] using hP) (old_keptT hk)
theorem min_rawT {its : List Value} {ns : List Int} {Q : Value → Shared → Prop} (hh : A.handled = none) (hl : s.heap.IsTuple l its.toArray) (hi : IntsAre its ns) (hne : 0 < ns.length)
    (h : ∀ h' tk M t', (∀ b o, s.heap.get? b = some o → h'.get? b = some o) → M ∈ ns → (∀ a, a ∈ ns → M ≤ a) → Q (.int M t') { s with heap := h', toks := tk }) : wpAny (model prog w) A (call (.builtin "min") [.ref l]) Q E s := by
  obtain ⟨xs, e⟩ := hi.allInts.items
  have hn : numsOf (intItems xs).toList = ns := by rw [← e]; exact hi.numsOf
  rw [nums_intItems] at hn
  subst hn
  rw [e] at hl
  have hsz : 0 < xs.size := by simpa using hne
  refine min_intTuple hh hl hsz fun v h' tk hv hk => ?_
  obtain ⟨t, rfl⟩ := intItems_at hv
  obtain ⟨h1, h2⟩ := argBest_lt (numAt xs) (xs.size - 1)
  refine h h' tk _ t hk ?_ fun a ha => ?_
  · rw [numAt_eq]; exact PySem.getD_mem (by rw [List.length_map, Array.length_toList]; omega)
  · obtain ⟨j, hj, rfl⟩ := mem_getD ha
    rw [List.length_map, Array.length_toList] at hj
    rw [← numAt_eq]; exact h2 j (by omega)
end
def rMaxT (K : PySem.W.Frag) : List V → Hp → VK → Prop := fun vs H Q => ∃ (a : Addr) (ns : List Int), vs = [V.ref a] ∧ SqT K H a (ns.map V.int) ∧ 0 < ns.length ∧ ∀ m, m ∈ ns → (∀ y, y ∈ ns → y ≤ m) → Q (.int m) H
theorem cr_maxT {X : Cx} (hc : X.calm = true) : CallR X (.builtin "max") (rMaxT X.K) := by
  intro pins s σ H vs us Q I r h
  obtain ⟨a, ns, rfl, hs, hne, q⟩ := h
  obtain ⟨its, rv, hl, _⟩ := I.tuple hs
  rw [Vals.ref1 r]
  exact max_rawT (I.ok.hd hc) hl rv.ints hne fun h' tk m t' hk h1 h2 => ⟨.int _, H, I.kept hk, ⟨_, rfl⟩, q m h1 h2⟩
def rMinT (K : PySem.W.Frag) : List V → Hp → VK → Prop := fun vs H Q => ∃ (a : Addr) (ns : List Int), vs = [V.ref a] ∧ SqT K H a (ns.map V.int) ∧ 0 < ns.length ∧ ∀ m, m ∈ ns → (∀ y, y ∈ ns → m ≤ y) → Q (.int m) H
theorem cr_minT {X : Cx} (hc : X.calm = true) : CallR X (.builtin "min") (rMinT X.K) := by
  intro pins s σ H vs us Q I r h
  obtain ⟨a, ns, rfl, hs, hne, q⟩ := h
  obtain ⟨its, rv, hl, _⟩ := I.tuple hs
  rw [Vals.ref1 r]
  exact min_rawT (I.ok.hd hc) hl rv.ints hne fun h' tk m t' hk h1 h2 => ⟨.int _, H, I.kept hk, ⟨_, rfl⟩, q m h1 h2⟩
section
variable {X : Cx} {L : Lv} {e a b c : Expr} {es : List Expr} {fa fb fc : FE} {ft fu : FT} {fr : FA} {pos p : Pos}
variable {K : PySem.W.Frag}
def liftO (X : Cx) (L : Lv) (fo : FO) : TO := fun σ H Q => ∃ Z Y s Xf Qf, Rel X.K Z Y H σ s ∧ L.keeps σ ∧ XOk X L Z Y Xf ∧ fo Xf s Qf ∧ ∀ o H' Z' s', Same Z Z' → Rel X.K Z' Y H' σ s' → Qf o s' → Q o H'
def PFO (X : Cx) (L : Lv) (e : Option Expr) (fo : FO) : Prop := PO X e (liftO X L fo)
theorem PO_imp {eo : Option Expr} {t t' : TO} (h : PO X eo t) (hi : ∀ σ H Q, t' σ H Q → t σ H Q) : PO X eo t' := ⟨fun pins s σ H Q I q => h.run pins s σ H Q I (hi σ H Q q)⟩
theorem pfo_none : PFO X L none fNoPart := PO_imp po_none fun σ H Q ⟨Z, Y, s, Xf, Qf, r, k, xo, h, q⟩ => q none H Z s (Same.refl _) r h
theorem pfo_some (h : PF X L e fa) : PFO X L (some e) (fPart fa) := PO_imp (po_some h) fun σ H Q ⟨Z, Y, s, Xf, Qf, r, k, xo, h, q⟩ => by
  refine ⟨Z, Y, s, Xf, _, r, k, xo, h, fun v H1 Z1 r1 s1 hz rx h1 => ?_⟩
  split at h1
  · exact ⟨_, rx.vi, q _ H1 Z1 s1 hz rx.rel0 h1⟩
  · exact h1.elim
def rFs (K : PySem.W.Frag) (g : D → Option Int → Option Int → (R → Prop) → Prop) : V → Option Int → Option Int → Hp → VK → Prop := fun x lo hi H Q => ∃ Z d Qf, Same Z H ∧ RpV K Z H x d ∧ g d lo hi Qf ∧ ∀ u H' Z' r, NewR K Z H Z' H' u r → Qf r → Q u H'
theorem fSl_ok {g : D → Option Int → Option Int → (R → Prop) → Prop} {fl fh : FO} {σ : St} {H : Hp} {Q : VK} (h : liftE X L (fSl g fa fl fh) σ H Q) : tSl (rFs X.K g) (liftE X L fa) (liftO X L fl) (liftO X L fh) σ H Q := by
  obtain ⟨Z, Y, s, Xf, Qf, r, k, xo, h, q⟩ := h
  refine ⟨Z, Y, s, Xf, _, r, k, xo, h, fun v H1 Z1 r1 s1 hz rx h1 => ?_⟩
  obtain ⟨Y', hy, rl, bk, fw⟩ := rx.frame
  refine ⟨Z1, Y', s1, Xf, _, rl, k, (xo.z hz).mono (Same.refl _) bk, h1, fun lo H2 Z2 s2 hz2 r2 h2 => ?_⟩
  refine ⟨Z2, Y', s2, Xf, _, r2, k, (xo.z (hz.trans hz2)).mono (Same.refl _) fun Z' H' σ' s' hz' => bk Z' H' σ' s' (hz2.trans hz'), h2, fun hi H3 Z3 s3 hz3 r3 h3 => ?_⟩
  have rx3 := fw Z3 H3 s3 [] [] (hz2.trans hz3) (.nil r3)
  obtain ⟨d, e1, h4⟩ := look_ok h3
  obtain ⟨v', ev, rv⟩ := rx3.look (k := 0) rfl e1
  cases ev
  exact ⟨Z3, d, _, rx3.rel0.zh, rv, h4, fun u H' Z' r n hq => q u H' Z' r s3 (((hz.trans hz2).trans hz3).trans n.hz) (rx3.rel0.new n) hq⟩
theorem RpAll.cut {Z : Hp} {vs : List V} {ds : List D} (r : RpAll K Z vs ds) (lo hi : Option Int) : RpAll K Z (cutV vs lo hi) (slD.cutL ds lo hi) := by
  unfold cutV slD.cutL
  rw [r.length]
  exact (r.drop _).take _
theorem fsl : SlR X (rFs X.K slD) := by
  intro pins s σ H x v vl vu lo hi sl Q I rx hs pl pu ⟨Z, d, Qf, hz, hd, g, q⟩
  unfold slD at g
  split at g
  · obtain ⟨p, vs, rfl, h1, h2, h3⟩ := hd.list hz
    exact sl_list pins s σ H _ v vl vu lo hi sl Q I rx hs pl pu ⟨p, vs, rfl, .inl h1, fun n hn => q _ _ Z _ (.lst hz hn (Nat.le_trans (cutV_length vs lo hi) h2) (h3.cut lo hi)) g⟩
  · obtain ⟨p, vs, rfl, h1, h2, h3⟩ := hd.tuple hz
    refine sl_tupA pins s σ H _ v vl vu lo hi sl Q I rx hs pl pu ⟨p, vs, rfl, h1, fun hw => ?_, fun hw n hn => q _ _ _ _ (.tup hz hn (Nat.le_trans (cutV_length vs lo hi) h2) (h3.cut lo hi)) g⟩
    rename_i xs0
    have e : slD.cutL xs0 lo hi = xs0 := by
      unfold slD.cutL
      rw [← h3.length, hw.1, hw.2, h3.length, Nat.sub_zero, List.drop_zero, List.take_length]
    rw [e] at g
    exact q _ H Z _ (.d hz (fop_add.RpV.tupZ hd)) g
  · exact g.elim
theorem pf_sl {lo hi : Option Expr} {fl fh : FO} {p2 : Pos} (he : PF X L e fa) (hl : PFO X L lo fl) (hh : PFO X L hi fh) : PF X L (.Subscript e (.Slice lo hi none p2) pos) (fSl slD fa fl fh) := PE_imp (pe_slice fsl he hl hh) fun _ _ _ => fSl_ok
inductive RpVs (K : PySem.W.Frag) (Z H : Hp) : List V → List D → Prop
  | nil : RpVs K Z H [] []
  | cons {v : V} {vs : List V} {d : D} {ds : List D} : RpV K Z H v d → RpVs K Z H vs ds → RpVs K Z H (v :: vs) (d :: ds)
def rFN (K : PySem.W.Frag) (g : VN) : List V → Hp → VK → Prop := fun vs H Q => ∃ Z ds Qf, Same Z H ∧ RpVs K Z H vs ds ∧ g ds Qf ∧ ∀ u H' Z' r, NewR K Z H Z' H' u r → Qf r → Q u H'
theorem lookAll_ok {Z H : Hp} {s : S} : ∀ {rs : List R} {vs : List V} {k : List D → Prop}, vs.length = rs.length → (∀ (j : Nat) q d, rs[j]? = some q → viewR s q = some d → ∃ v, vs[j]? = some v ∧ RpV K Z H v d) → fBlt.lookAll s rs k → ∃ ds, RpVs K Z H vs ds ∧ k ds
  | [], [], k, hl, hv, h => ⟨[], .nil, h⟩
  | [], _ :: _, k, hl, hv, h => by cases hl
  | r :: rs, [], k, hl, hv, h => by cases hl
  | r :: rs, v :: vs, k, hl, hv, h => by
    obtain ⟨d, e, h2⟩ := look_ok h
    obtain ⟨v', ev, rv⟩ := hv 0 r d rfl e
    cases ev
    obtain ⟨ds, rr, h3⟩ := lookAll_ok (by simpa using hl) (fun j q d h1 h2 => hv (j + 1) q d h1 h2) h2
    exact ⟨d :: ds, .cons rv rr, h3⟩
theorem fBlt_ok {g : VN} {n : Nat} {σ : St} {H : Hp} {Q : VK} (h : liftE X L (fBlt g fr) σ H Q) : tCB (rFN X.K g) (liftA X L n fr) σ H Q := by
  obtain ⟨Z, Y, s, Xf, Qf, r, k, xo, h, q⟩ := h
  refine ⟨Z, Y, s, Xf, _, r, k, xo, h, fun vs H1 Z1 rs s1 hz rx hn h1 => ?_⟩
  obtain ⟨ds, rr, h2⟩ := lookAll_ok rx.l2 (fun j q d e1 e2 => rx.look e1 e2) h1
  exact ⟨Z1, ds, _, rx.rel0.zh, rr, h2, fun u H' Z' r n hq => q u H' Z' r s1 (hz.trans n.hz) (rx.rel0.new n) hq⟩
variable {x : Str} {id T : String}
theorem pf_blt {g : VN} (hc : CallR X (.builtin id) (rFN X.K g)) (hm : X.mg x = none) (hv : bootBuiltins x = some (.builtin id)) (ha : PFA X L (e :: es) fr) (hg : Gl X x := by rfl) (hn : x ≠ "__name__" := by decide) (hdb : (x == ("__debug__" : Str)) = false := by decide)
    (he : starEach (e :: es) X.env = (false, eval e X.env) :: starEach es X.env := by rfl) (hpl : (backTo pos (starEach es X.env)).any (·.1) = false := by rfl) : PF X L (.Call (.Name x p) (e :: es) [] pos) (fBlt g fr) := PE_imp (pe_callB hc hg hm hv ha hn hdb he hpl) fun _ _ _ => fBlt_ok
theorem pf_bty {g : VN} (hc : CallR X (.type T) (rFN X.K g)) (hm : X.mg x = none) (hv : bootBuiltins x = some (.type T)) (ha : PFA X L (e :: es) fr) (hg : Gl X x := by rfl) (hn : x ≠ "__name__" := by decide) (hdb : (x == ("__debug__" : Str)) = false := by decide)
    (he : starEach (e :: es) X.env = (false, eval e X.env) :: starEach es X.env := by rfl) (hpl : (backTo pos (starEach es X.env)).any (·.1) = false := by rfl) : PF X L (.Call (.Name x p) (e :: es) [] pos) (fBlt g fr) := PE_imp (pe_callTy hc hg hm hv ha hn hdb he hpl) fun _ _ _ => fBlt_ok
theorem RpVs.one {Z H : Hp} {vs : List V} {d : D} (r : RpVs K Z H vs [d]) : ∃ v, vs = [v] ∧ RpV K Z H v d := by
  cases r with
  | cons h r => cases r; exact ⟨_, rfl, h⟩
theorem RpVs.two {Z H : Hp} {vs : List V} {d e : D} (r : RpVs K Z H vs [d, e]) : ∃ v w, vs = [v, w] ∧ RpV K Z H v d ∧ RpV K Z H w e := by
  cases r with
  | cons h r =>
    cases r with
    | cons h2 r => cases r; exact ⟨_, _, rfl, h, h2⟩
theorem fb_len : CallR X (.builtin "len") (rFN X.K bLen) := by
  intro pins s σ H vs us Q I rv ⟨Z, ds, Qf, hz, rr, g, q⟩
  unfold bLen at g
  split at g
  · obtain ⟨v, rfl, r1⟩ := rr.one
    obtain ⟨p, vs, rfl, h1, h2, h3⟩ := r1.list hz
    exact call_len pins s σ H _ us Q I rv ⟨_, vs.length, rfl, .inl ⟨vs, .inl h1, rfl⟩, by rw [h3.length]; exact q _ H Z _ (.d hz (.int _)) g⟩
  · obtain ⟨v, rfl, r1⟩ := rr.one
    obtain ⟨p, vs, rfl, h1, h2, h3⟩ := r1.tuple hz
    exact call_len pins s σ H _ us Q I rv ⟨_, vs.length, rfl, .inr ⟨vs, h1, rfl⟩, by rw [h3.length]; exact q _ H Z _ (.d hz (.int _)) g⟩
  · obtain ⟨v, rfl, r1⟩ := rr.one
    cases r1.str
    exact call_len pins s σ H _ us Q I rv ⟨_, _, rfl, ⟨g.1, rfl⟩, q _ H Z _ (.d hz (.int _)) g.2⟩
  · obtain ⟨v, rfl, r1⟩ := rr.one
    obtain ⟨p, ns, rfl, rfl, h1, h2⟩ := r1.lit hz
    exact call_len pins s σ H _ us Q I rv ⟨_, _, rfl, .inl ⟨_, h1, rfl⟩, by rw [List.length_map]; rw [List.length_map] at g; exact q _ H Z _ (.d hz (.int _)) g⟩
  · exact g.elim
theorem fb_max2 (hc : X.calm = true) : CallR X (.builtin "max") (rFN X.K bMax2) := by
  intro pins s σ H vs us Q I rv ⟨Z, ds, Qf, hz, rr, g, q⟩
  unfold bMax2 at g
  split at g
  · obtain ⟨v, w, rfl, r1, r2⟩ := rr.two
    cases r1.int; cases r2.int
    exact call_max2 hc pins s σ H _ us Q I rv ⟨_, _, rfl, q _ H Z _ (.d hz (.int _)) g⟩
  · exact g.elim
theorem fb_min2 (hc : X.calm = true) : CallR X (.builtin "min") (rFN X.K bMin2) := by
  intro pins s σ H vs us Q I rv ⟨Z, ds, Qf, hz, rr, g, q⟩
  unfold bMin2 at g
  split at g
  · obtain ⟨v, w, rfl, r1, r2⟩ := rr.two
    cases r1.int; cases r2.int
    exact call_min2 hc pins s σ H _ us Q I rv ⟨_, _, rfl, q _ H Z _ (.d hz (.int _)) g⟩
  · exact g.elim
theorem fb_int : CallR X (.type "int") (rFN X.K bInt) := by
  intro pins s σ H vs us Q I rv ⟨Z, ds, Qf, hz, rr, g, q⟩
  unfold bInt at g
  split at g
  · obtain ⟨v, rfl, r1⟩ := rr.one
    cases r1.int
    exact call_int1 pins s σ H _ us Q I rv (.inl ⟨_, rfl, q _ H Z _ (.d hz (.int _)) g⟩)
  · obtain ⟨v, rfl, r1⟩ := rr.one
    cases r1.bool
    exact call_int1 pins s σ H _ us Q I rv (.inr ⟨_, rfl, q _ H Z _ (.d hz (.int _)) g⟩)
  · exact g.elim
theorem fb_tuple : CallR X (.type "tuple") (rFN X.K bTuple) := by
  intro pins s σ H vs us Q I rv ⟨Z, ds, Qf, hz, rr, g, q⟩
  unfold bTuple at g
  split at g
  · obtain ⟨v, rfl, r1⟩ := rr.one
    obtain ⟨p, vs, rfl, h1, h2, h3⟩ := r1.list hz
    exact call_tuple_of pins s σ H _ us Q I rv ⟨p, vs, rfl, .inl ⟨.inl h1, fun n hn => q _ _ _ _ (.tup hz hn h2 h3) g⟩⟩
  · obtain ⟨v, rfl, r1⟩ := rr.one
    obtain ⟨p, vs, rfl, h1, h2, h3⟩ := r1.tuple hz
    exact call_tuple_of pins s σ H _ us Q I rv ⟨p, vs, rfl, .inr ⟨h1, q _ H Z _ (.d hz (fop_add.RpV.tupZ r1)) g⟩⟩
  · exact g.elim
theorem fb_list : CallR X (.type "list") (rFN X.K bList) := by
  intro pins s σ H vs us Q I rv ⟨Z, ds, Qf, hz, rr, g, q⟩
  unfold bList at g
  split at g
  · obtain ⟨v, rfl, r1⟩ := rr.one
    obtain ⟨p, vs, rfl, h1, h2, h3⟩ := r1.list hz
    exact call_list_of pins s σ H _ us Q I rv ⟨p, vs, rfl, .inl (.inl h1), fun n hn => q _ _ Z _ (.lst hz hn h2 h3) g⟩
  · obtain ⟨v, rfl, r1⟩ := rr.one
    obtain ⟨p, vs, rfl, h1, h2, h3⟩ := r1.tuple hz
    exact call_list_of pins s σ H _ us Q I rv ⟨p, vs, rfl, .inr h1, fun n hn => q _ _ Z _ (.lst hz hn h2 h3) g⟩
  · exact g.elim
theorem fb_all (hc : X.calm = true) : CallR X (.builtin "all") (rFN X.K bAll) := by
  intro pins s σ H vs us Q I rv ⟨Z, ds, Qf, hz, rr, g, q⟩
  unfold bAll at g
  split at g
  · split at g
    · rename_i eb
      obtain ⟨v, rfl, r1⟩ := rr.one
      obtain ⟨p, vs, rfl, h1, h2, h3⟩ := r1.list hz
      rw [boolsOf_eq eb] at h3
      rw [h3.bools] at h1
      exact cr_all hc pins s σ H _ us Q I rv ⟨p, _, rfl, .inl h1, q _ H Z _ (.d hz (.bl _)) g⟩
    · exact g.elim
  · exact g.elim
theorem fb_any (hc : X.calm = true) : CallR X (.builtin "any") (rFN X.K bAny) := by
  intro pins s σ H vs us Q I rv ⟨Z, ds, Qf, hz, rr, g, q⟩
  unfold bAny at g
  split at g
  · split at g
    · rename_i eb
      obtain ⟨v, rfl, r1⟩ := rr.one
      obtain ⟨p, vs, rfl, h1, h2, h3⟩ := r1.list hz
      rw [boolsOf_eq eb] at h3
      rw [h3.bools] at h1
      exact cr_any hc pins s σ H _ us Q I rv ⟨p, _, rfl, .inl h1, q _ H Z _ (.d hz (.bl _)) g⟩
    · exact g.elim
  · exact g.elim
theorem fb_maxL (hc : X.calm = true) : CallR X (.builtin "max") (rFN X.K bMaxL) := by
  intro pins s σ H vs us Q I rv ⟨Z, ds, Qf, hz, rr, g, q⟩
  unfold bMaxL at g
  split at g
  · split at g
    · rename_i eb
      obtain ⟨v, rfl, r1⟩ := rr.one
      obtain ⟨p, vs, rfl, h1, h2, h3⟩ := r1.list hz
      rw [intsOf_eq eb] at h3
      rw [h3.ints] at h1
      exact cr_max hc pins s σ H _ us Q I rv ⟨p, _, rfl, .inl h1, g.1, fun m hm hy => q _ H Z _ (.d hz (.int _)) (g.2 m hm hy)⟩
    · exact g.elim
  · split at g
    · rename_i eb
      obtain ⟨v, rfl, r1⟩ := rr.one
      obtain ⟨p, vs, rfl, h1, h2, h3⟩ := r1.tuple hz
      rw [intsOf_eq eb] at h3
      rw [h3.ints] at h1
      exact cr_maxT hc pins s σ H _ us Q I rv ⟨p, _, rfl, h1, g.1, fun m hm hy => q _ H Z _ (.d hz (.int _)) (g.2 m hm hy)⟩
    · exact g.elim
  · exact g.elim
theorem fb_minL (hc : X.calm = true) : CallR X (.builtin "min") (rFN X.K bMinL) := by
  intro pins s σ H vs us Q I rv ⟨Z, ds, Qf, hz, rr, g, q⟩
  unfold bMinL at g
  split at g
  · split at g
    · rename_i eb
      obtain ⟨v, rfl, r1⟩ := rr.one
      obtain ⟨p, vs, rfl, h1, h2, h3⟩ := r1.list hz
      rw [intsOf_eq eb] at h3
      rw [h3.ints] at h1
      exact cr_min hc pins s σ H _ us Q I rv ⟨p, _, rfl, .inl h1, g.1, fun m hm hy => q _ H Z _ (.d hz (.int _)) (g.2 m hm hy)⟩
    · exact g.elim
  · split at g
    · rename_i eb
      obtain ⟨v, rfl, r1⟩ := rr.one
      obtain ⟨p, vs, rfl, h1, h2, h3⟩ := r1.tuple hz
      rw [intsOf_eq eb] at h3
      rw [h3.ints] at h1
      exact cr_minT hc pins s σ H _ us Q I rv ⟨p, _, rfl, h1, g.1, fun m hm hy => q _ H Z _ (.d hz (.int _)) (g.2 m hm hy)⟩
    · exact g.elim
  · exact g.elim
def tyName : D → String
  | .none => "NoneType"
  | .bool _ => "bool"
  | .int _ => "int"
  | .str _ => "str"
  | .list _ => "list"
  | .tuple _ => "tuple"
  | .dict _ => "dict"
theorem tyX_of {H : Hp} {v : V} {d : D} (r : Rp K H v d) (hl : isLit d = false) : TyX K H v (.type (tyName d)) := by
  cases r with
  | lit h z => cases hl
  | exc h => cases hl
  | tf h c d z => cases hl
  | obj h1 h2 a => cases hl
  | non => exact .base .non
  | bl b => exact .base (.bl b)
  | int i => exact .base (.int i)
  | str x => exact .base (.str x)
  | lst h z a =>
    rcases h with h | ⟨o, h⟩
    · exact .base (.lst h)
    · exact .base (.frz h)
  | tup h z a => exact .base (.tup h)
  | dcK h a =>
    rcases h with h | ⟨o, h⟩
    · exact .base (.dK h)
    · exact .fDict h
  | dcT h a => exact .base (.dT h)
/-- the classes that are asked for -/
inductive AskTy : String → Prop
  | int : AskTy "int" | bool : AskTy "bool" | tuple : AskTy "tuple" | list : AskTy "list" | str : AskTy "str" | dict : AskTy "dict"
def tyB (n T : String) : Bool := n == T || (n == "bool" && T == "int")
theorem kitTab : ∀ n ∈ ["NoneType", "bool", "int", "str", "list", "tuple", "dict"], ∀ T ∈ ["int", "bool", "tuple", "list", "str", "dict"], kitB n T = some (tyB n T) := by decide +kernel
theorem tyName_mem (d : D) : tyName d ∈ ["NoneType", "bool", "int", "str", "list", "tuple", "dict"] := by cases d <;> simp [tyName]
theorem isTy_eq {T : String} (h : AskTy T) (d : D) : isTy T d = tyB (tyName d) T := by cases h <;> cases d <;> rfl
theorem kit_is {T : String} (h : AskTy T) (d : D) : PySem.W.kitOne K (.type (tyName d)) (.type T) = some (isTy T d) := by
  rw [isTy_eq h]
  exact kit_ty (kitTab _ (tyName_mem d) T (by cases h <;> simp))
theorem pf_isinst {T : String} {tx : Str} {p2 : Pos} (hT : AskTy T) (ha : PF X L a fa) (hm : X.mg "isinstance" = none) (hmT : X.mg tx = none) (hbT : bootBuiltins tx = some (.type T)) (hg : Gl X "isinstance" := by rfl) (hgT : Gl X tx := by rfl)
    (hnT : tx ≠ "__name__" := by decide) (hdT : (tx == ("__debug__" : Str)) = false := by decide) (he : starEach [a, .Name tx p2] X.env = (false, eval a X.env) :: starEach [.Name tx p2] X.env := by rfl) (he2 : starEach [.Name tx p2] X.env = (false, eval (.Name tx p2) X.env) :: starEach [] X.env := by rfl)
    (hpl : (backTo pos (starEach [.Name tx p2] X.env)).any (·.1) = false := by rfl) : PF X L (.Call (.Name "isinstance" p) [a, .Name tx p2] [] pos) (fUn (bIs T) fa) :=
  PE_imp (pe_callB call_isi hg hm (by decide +kernel) (pa_cons ha (pa_cons (pe_bltn (v := .ty T) hgT hmT hbT rfl hnT hdT) pa_nil he2) he) (by decide) (by decide) he hpl) fun σ H Q ⟨Z, Y, s, Xf, Qf, r, k, xo, h, q⟩ => by
  refine ⟨Z, Y, s, Xf, _, r, k, xo, h, fun v H1 Z1 r1 s1 hz rx h1 => ?_⟩
  obtain ⟨d, e1, h3⟩ := look_ok h1
  obtain ⟨v', ev, rv⟩ := rx.look (k := 0) rfl e1
  cases ev
  exact ⟨v, .ty T, _, .type T, _, rfl, .ty T, tyX_of (rv.rp rx.rel0.zh) h3.1, kit_is hT d, q _ H1 Z1 _ s1 hz (.d rx.rel0 (.bl _)) h3.2⟩
def rLm (K : PySem.W.Frag) (g : LM) : V → List V → Hp → VK → Prop := fun x us H Q => ∃ Z p vs xs ds Qf, x = .ref p ∧ H p = some (.lst vs) ∧ vs.length ≤ sizeLine ∧ RpAll K Z vs xs ∧ Same Z H ∧ RpAll K Z us ds ∧ g xs ds Qf ∧
  ∀ u d vs' xs', Qf d xs' → Rp K Z u d → vs'.length ≤ sizeLine → RpAll K Z vs' xs' → Q u (upd H p (.lst vs'))
theorem onL_ok {i : Nat} {s : S} {k : List D → Prop} (h : onL i s k) : ∃ xs, s.getD i .no = .l xs ∧ k xs := by
  unfold onL at h
  generalize s.getD i .no = w at h
  cases w with
  | l xs => exact ⟨xs, rfl, h⟩
  | _ => exact h.elim
theorem Rel.slotL {Z Y H : Hp} {σ : St} {s : S} (r : Rel K Z Y H σ s) {i : Nat} {xs : List D} (e : s.getD i .no = .l xs) : ∃ p vs, σ.getD i none = some (.ref p) ∧ H p = some (.lst vs) ∧ vs.length ≤ sizeLine ∧ RpAll K Z vs xs := by
  obtain ⟨F, q⟩ := r.slot i
  rw [e] at q
  obtain ⟨p, vs, h1, _, h3, h4, h5⟩ := q
  exact ⟨p, vs, h1, h3, h4, h5⟩
theorem fLm_ok {i n : Nat} {g : LM} {σ : St} {H : Hp} {Q : VK} (h : liftE X L (fLm i g fr) σ H Q) : tBM X.K "list" (rLm X.K g) (tVar i) (liftA X L n fr) σ H Q := by
  obtain ⟨Z, Y, s, Xf, Qf, r, k, xo, h, q⟩ := h
  obtain ⟨xs0, e0, h⟩ := onL_ok h
  obtain ⟨p, vs, hv, hp, _, _⟩ := r.slotL e0
  refine ⟨.ref p, getD_some hv, .inl ⟨rfl, vs, .inl (.inl hp)⟩, Z, Y, s, Xf, _, r, k, xo, h, fun us H1 Z1 rs s1 hz rx hn h1 => ?_⟩
  obtain ⟨Z2, ds, s2, hz2, rx2, h2⟩ := frzAll_ok (us := []) (ds := []) rx rfl h1
  obtain ⟨xs, e2, h3⟩ := onL_ok h2
  have r2 := rx2.rel0
  obtain ⟨p', vs', hv', hp', hl', ra'⟩ := r2.slotL e2
  rw [hv] at hv'
  cases hv'
  refine ⟨Z2, p, vs', xs, ds, _, rfl, hp', hl', ra', r2.zh, rx2.rps, h3, fun u d vs2 xs2 hq ru hl2 ra2 => ?_⟩
  have w := r2.write (i := i) (xs' := xs2) (vs' := vs2) e2 hv hl2 ra2
  exact q u _ Z2 _ _ (hz.trans hz2) (.d w ru) hq
variable {nm : Str} {apos cpos : Pos} {y : Str} {px : Pos}
theorem pf_lm (i : Nat) {g : LM} (slot : Slot "list" nm id) (hty : typeOf (.builtin id) = pure (.type "method_descriptor")) (hm : MtR X id (rLm X.K g)) (ha : PFA X L (e :: es) fr)
    (ho : PE X (.Name y px) (tVar i)) (hbase : attributeBase (.Name y px) nm X.env (eval (.Name y px) X.env) = eval (.Name y px) X.env := by rfl)
    (hfew : ((backTo cpos (starEach (e :: es) X.env)).all (fun x => !x.1) && (backToKw cpos (keywordEach [] X.env)).all (fun x => x.1.isSome)
      && decide ((e :: es).length + ([] : List Keyword).length + (if ([] : List Keyword).isEmpty then 0 else 1) < 30)) = true := by rfl)
    (hline : (apos.endLine == cpos.line) = true := by rfl) (hs : starEach (e :: es) X.env = (false, eval e X.env) :: starEach es X.env := by rfl) (hplain : (backTo cpos (starEach es X.env)).any (·.1) = false := by rfl) :
    PF X L (.Call (.Attribute (.Name y px) nm apos) (e :: es) [] cpos) (fLm i g fr) := PE_imp (pe_bm PySem.F.plainAttrs_list slot hty hm ho ha hbase hfew hline hs hplain) fun _ _ _ => fLm_ok
theorem fm_append : MtR X "list.append" (rLm X.K mAppend) := by
  intro pins s σ H x us v vs Q I rx rv ⟨Z, p, ws, xs, ds, Qf, ex, hp, hl, ra, hz, rd, g, q⟩
  unfold mAppend at g
  split at g
  · cases rd with
    | cons r1 r2 =>
      cases r2
      have l1 := ra.length
      exact mt_append pins s σ H x _ v vs Q I rx rv ⟨p, ws, _, ex, rfl, hp, by omega, q _ _ _ _ g.2 .non (by rw [List.length_append]; show ws.length + 1 ≤ _; omega) (ra.append (.cons r1 .nil))⟩
  · exact g.elim
theorem fm_insert : MtR X "list.insert" (rLm X.K mInsert) := by
  intro pins s σ H x us v vs Q I rx rv ⟨Z, p, ws, xs, ds, Qf, ex, hp, hl, ra, hz, rd, g, q⟩
  unfold mInsert at g
  split at g
  · cases rd with
    | cons r1 r2 =>
      cases r2 with
      | cons r2 r3 =>
        cases r3; cases r1
        have l1 := ra.length
        exact mt_insert pins s σ H x _ v vs Q I rx rv ⟨p, ws, _, _, ex, rfl, hp, by omega, g.2.1, g.2.2.1, q _ _ _ _ g.2.2.2 .non (by simp; omega) (((ra.take _).append (.cons r2 .nil)).append (ra.drop _))⟩
  · exact g.elim
theorem RpAll.erase {Z : Hp} {vs : List V} {ds : List D} (r : RpAll K Z vs ds) (i : Nat) : RpAll K Z (vs.eraseIdx i) (ds.eraseIdx i) := by
  rw [List.eraseIdx_eq_take_drop_succ, List.eraseIdx_eq_take_drop_succ]
  exact (r.take i).append (r.drop (i + 1))
theorem ext_lists {pins : List (Addr × Obj)} {s : Shared} {σ : St} {H : Hp} {l b : Addr} {xs zs : List V} {v u : Value} {Q : VK} (I : Inv X pins σ H s) (hH : H l = some (.lst xs)) (hB : Rd H b (.lst zs)) (hz : xs.length + zs.length ≤ sizeLine) (q : Q .non (upd H l (.lst (xs ++ zs)))) :
    wpAny (model X.prog X.w) X.A (call (.builtin "list.extend") [.ref l, .ref b]) (EP X pins σ Q) X.xe s := by
  obtain ⟨z, its, n, r, hl, e⟩ := I.lstM hH
  obtain ⟨z2, its2, n2, r2, e2⟩ := hB.ok I.hok
  have hl2 := r2.length
  have hsz : its.toArray.size + its2.toArray.size ≤ sizeLine := by rw [List.size_toArray, List.size_toArray]; omega
  have hlong : ¬ (!its.toArray.isEmpty && Builtin.List.listTooLong (its.toArray.size + its2.toArray.size)) = true := by
    rw [notLongL hsz, Bool.and_false]
    exact Bool.false_ne_true
  refine call_meets F.slot_list_extend ⟨_, e, rfl⟩ F.entry_list_extend (F.args_list_extend_2 _ _)
    (AutoSeq1.list_extend_list_list_0 l its.toArray n b its2.toArray n2 hlong (by rw [List.size_toArray]; omega) (by omega)) ⟨e, e2, ?_⟩
  refine ⟨.non, _, I.lset (its' := its ++ its2) hH e (by simp) (r.append r2) ?_, rfl, q⟩
  rw [List.length_append]
  omega
theorem fm_extend : MtR X "list.extend" (rLm X.K mExtend) := by
  intro pins s σ H x us v vs Q I rx rv ⟨Z, p, ws, xs, ds, Qf, ex, hp, hl, ra, hz, rd, g, q⟩
  unfold mExtend at g
  split at g
  · cases rd with
    | cons r1 r2 =>
      cases r2
      subst ex
      cases rx
      cases r1 with
      | lst h z a =>
        obtain ⟨u, rfl, ru⟩ := rv.one
        cases ru
        have l1 := ra.length
        have l2 := a.length
        exact ext_lists (v := .none) (u := .none) I hp (same_rd hz h) (by omega) (q _ _ _ _ g.2 .non (by rw [List.length_append]; omega) (ra.append a))
  · exact g.elim
theorem pfs_setIx (i : Nat) {po : Pos} {j : Expr} {fj : FE} (he : PF X L e fa) (ho : PE X (.Name y px) (tVar i)) (hj : PF X L j fj)
    (ha : ∀ v, assign (.Subscript (.Name y px) j po) X.env v = (do
      let ov ← holding [v] (eval (.Name y px) X.env)
      let iv ← holding [v, ov] (eval j X.env)
      standAt po
      holding [v, ov, iv] (setItem ov iv v)
      release [v, ov, iv] []) := by intro _; rfl) (hs : swapsWithSole [.Subscript (.Name y px) j po] e pos.line X.env = pure false := by rfl) (hw : swappedStores [.Subscript (.Name y px) j po] e X.env = pure none := by rfl)
    (h1 : (assignEach [.Subscript (.Name y px) j po] X.env).map (·.2) = [assign (.Subscript (.Name y px) j po) X.env] := by rfl) : PFS X L (.Assign [.Subscript (.Name y px) j po] e pos) (fSetIx i fj fa) :=
  PS_imp (ps_asg he (pg_sub ho hj set_list ha) hs hw h1) fun D σ H ⟨Z, Y, s, Ef, r, k, h, eo⟩ => by
  refine ⟨Z, Y, s, Ef.xx, _, r, k, eo.xx, h, fun v H1 Z1 r1 s1 hz rx h1 => ?_⟩
  obtain ⟨xs0, e0, h1⟩ := onL_ok h1
  obtain ⟨q, vs0, hv, _, _, _⟩ := rx.rel0.slotL e0
  obtain ⟨Y', hy, rl, bk, fw⟩ := rx.frame
  refine ⟨.ref q, getD_some hv, Z1, Y', s1, Ef.xx, _, rl, k, (eo.xx.z hz).mono (Same.refl _) bk, h1, fun w H2 Z2 rj s2 hz2 rx2 h2 => ?_⟩
  split at h2
  · rename_i kk
    have ew := rx2.vi
    subst ew
    have rx3 := fw Z2 H2 s2 [] [] hz2 (.nil rx2.rel0)
    obtain ⟨Z3, d, s3, hz3, rx4, h3⟩ := frz_ok (us := []) (ds := []) (vs := []) (rs := []) rx3 rfl h2
    obtain ⟨xs, e2, h0, hlt, h4⟩ := onL_ok h3
    obtain ⟨q', vs', hv', hp', hl', ra'⟩ := rx4.rel0.slotL e2
    rw [hv] at hv'
    cases hv'
    have w := rx4.rel0.write (i := i) (xs' := xs.set kk.toNat d) (vs' := vs'.set kk.toNat v) e2 hv (by rw [List.length_set]; exact hl') (ra'.set rx4.vd _)
    refine ⟨q, vs', kk, kk.toNat, rfl, rfl, hp', ?_, eo.nx σ _ Z3 _ ((hz.trans hz2).trans hz3) k w h4⟩
    unfold ixN
    rw [if_pos h0, if_pos (by rw [ra'.length]; omega)]
  · exact h2.elim
end
end Hs
namespace Hs
open PySem PySem.Spec PyProof.Rows L2
/-- what is known of a text: the head's facts, the base below -/
structure TxOk (fa : List He.Fa) (fn : List He.DefD) (K : PySem.W.Frag) (mg : Str → Option Value) (base : Heap) : Prop where
  c : He.SaysD fa fn K
  X : K.In base
  G : base.Ns mainGlobals mg
section
variable {fa : List He.Fa} {fn : List He.DefD} {K : PySem.W.Frag} {mg : Str → Option Value} {base : Heap}
theorem TxOk.free (T : TxOk fa fn K mg base) (i : Nat) {x : Str} (h : fa[i]? = some (.free x) := by rfl) : mg x = none := He.free_ok T.X T.G (T.c.fact i h)
theorem TxOk.glo (T : TxOk fa fn K mg base) (i : Nat) {x : Str} (h : fa[i]? = some (.glo x) := by rfl) : mg x = some (.ref (He.ga K x)) := He.glo_ok T.X T.G (T.c.fact i h)
theorem TxOk.int (T : TxOk fa fn K mg base) (i : Nat) {x : Str} {z : Int} (h : fa[i]? = some (.int x z) := by rfl) : ∃ t, mg x = some (.int z t) := He.int_ok T.X T.G (T.c.fact i h)
theorem TxOk.str (T : TxOk fa fn K mg base) (i : Nat) {x z : Str} (h : fa[i]? = some (.str x z) := by rfl) : ∃ t, mg x = some (.str z t) := He.str_ok T.X T.G (T.c.fact i h)
theorem TxOk.exc (T : TxOk fa fn K mg base) (i : Nat) {x : Str} (h : fa[i]? = some (.exc x) := by rfl) : PySem.W.excIn K (He.ga K x) He.veBase "ValueError.__new__" = true ∧ PySem.W.keepIn K (.ref (He.ga K x)) = true ∧ PySem.W.subIn K (.ref (He.ga K x)) (.type "BaseException") = some true ∧ PySem.W.typeIn K (.ref (He.ga K x)) = some (.type "type") := He.exc_ok (T.c.fact i h)
end
/-- a def of the text -/
def Df (P : Program) (w : World) (K : PySem.W.Frag) (mg : Str → Option Value) (base : Heap) (x : Str) (k : Nat) (ps : List Str) (ms : List Bool) (sem : FSem) : Prop :=
  ∃ f fd, FnOk P w K mg base (L2.CX P w) k f fd ps (liftSp K mg (ioOf ms) ps.length sem) ∧ Binds K fd ps [] ∧ mg x = some (.ref f) ∧ PySem.W.keepIn K (.ref f) = true
theorem funOf {K : PySem.W.Frag} {x q : Str} {st : Stmt} {f : Addr} {fd : FuncData} {kws : List (Str × V)} (F : FunD K x q (defArgs st) (defBody st) (defScope st) [] kws f fd) : Fun K x q st f fd := by
  obtain ⟨oc, od, dV, kV, doc, pm, an, cdv, ct, osl, e, l, c, hd, hk⟩ := F.ex
  rcases hd with ⟨h0, h1⟩ | ⟨h0, _⟩
  · subst h1
    exact ⟨⟨oc, od, kV, doc, pm, an, cdv, ct, osl, e, l, c⟩, F.kp⟩
  · exact (h0 rfl).elim
section
variable {P : Program} {w : World} {K : PySem.W.Frag} {mg : Str → Option Value} {base : Heap} {fa : List He.Fa} {fn : List He.DefD}
theorem dfOk (T : TxOk fa fn K mg base) {x : Str} {st : Stmt} {N ps : List Str} {ms : List Bool} {bd : FS} {k : Nat} (i j : Nat) (sco : FnScope N ps (defScope st)) (hnp : ps.length ≤ N.length)
    (hbi : ∀ (kV doc pm : Value) (an : Option Addr) (cdv ct : Value) (us : List Value), us.length = ps.length → bindArgs (PySem.W.fnOf x x (defArgs st) (defBody st) (defScope st) .none kV doc pm an cdv ct) ⟨us, []⟩ = pure (ps.zip us))
    (hb : ∀ (f : Addr) (cdv : Value) (A : Around) (outer : List Env) (s : Shared) (H : Hp) (vs : List V) (E : XK), Room k (A.deeper (envOfC x (defScope st) s.heap.objs.size f cdv)) →
      PFSs (cxOf (L2.CX P w) P w K mg base N x (defScope st) f cdv A outer s H E) ⟨fun cls d _ H => E cls d H, ioOf ms, L2.start N vs⟩ (defBody st) bd)
    (h : fn[i]? = some (dOf x st) := by rfl) (hg : fa[j]? = some (.glo x) := by rfl) : Df P w K mg base x (k + 1) ps ms (semOf ps.length N.length bd) := by
  obtain ⟨fd, F⟩ := T.c.def_ i h
  exact ⟨_, fd, okF (funOf F) sco hnp fun cdv A outer s H vs E hr => hb _ cdv A outer s H vs E hr, F.bindsN hbi, T.glo j hg, F.kp⟩
/-- a def of which nothing is said yet -/
theorem dfNone (T : TxOk fa fn K mg base) {x : Str} {st : Stmt} {ps : List Str} {ms : List Bool} {k : Nat} (i j : Nat)
    (hbi : ∀ (kV doc pm : Value) (an : Option Addr) (cdv ct : Value) (us : List Value), us.length = ps.length → bindArgs (PySem.W.fnOf x x (defArgs st) (defBody st) (defScope st) .none kV doc pm an cdv ct) ⟨us, []⟩ = pure (ps.zip us))
    (h : fn[i]? = some (dOf x st) := by rfl) (hg : fa[j]? = some (.glo x) := by rfl) : Df P w K mg base x k ps ms (fun _ _ _ => False) := by
  obtain ⟨fd, F⟩ := T.c.def_ i h
  exact ⟨_, fd, ⟨fun vs H Q E ⟨_, _, _, _, _, hl, _⟩ => hl, fun A outer s H args us vs Q E hr he hb hv ⟨_, _, _, _, _, _, _, no, _⟩ => no.elim⟩, F.bindsN hbi, T.glo j hg, F.kp⟩
theorem Df.up {x : Str} {j k : Nat} {ps : List Str} {ms : List Bool} {sem : FSem} (D : Df P w K mg base x j ps ms sem) (h : j ≤ k) : Df P w K mg base x k ps ms sem := by
  obtain ⟨f, fd, F, b, m, kp⟩ := D
  exact ⟨f, fd, F.mono h, b, m, kp⟩
variable {X : Cx} {L : Lv} {e a b : Expr} {es : List Expr} {fr : FA} {pos p : Pos} {x : Str} {ps : List Str} {ms : List Bool} {k : Nat}
theorem pf_callD {sem : FSem} (D : Df X.prog X.w X.K X.mg X.base x k ps ms sem) (hr : Room k X.A) (hx : ∀ σ, PassesAt (L2.CX X.prog X.w) X σ (fun cls d H => L.E cls d σ H)) (ha : PFA X L (e :: es) fr) (hl : ps.length = es.length + 1 := by rfl) (hg : Gl X x := by rfl)
    (hn : ms.length = es.length + 1 := by rfl) (hdb : (x == ("__debug__" : Str)) = false := by decide) (he : starEach (e :: es) X.env = (false, eval e X.env) :: starEach es X.env := by rfl) (hpl : (backTo pos (starEach es X.env)).any (·.1) = false := by rfl) :
    PF X L (.Call (.Name x p) (e :: es) [] pos) (fCall sem ms fr) := by
  obtain ⟨f, fd, F, bi, m, kp⟩ := D
  rw [hl] at F
  exact pf_call F hr m kp bi hx ha hg hn hdb he hpl
theorem _root_.L2.Room.u64 {A : Around} (r : Room k A) : A.units + 64 < cLine := by have := r.un; omega
theorem _root_.L2.Room.u65 {A : Around} (r : Room k A) : A.units + 65 < cLine := by have := r.un; omega
theorem pfs_raise {C : Addr} {m : Str} {j : Nat} {p2 pos' : Pos} (hc : X.calm = true) (tk : Takes X L.E) (gC : X.mg x = some (.ref C))
    (q : PySem.W.excIn X.K C He.veBase "ValueError.__new__" = true ∧ PySem.W.keepIn X.K (.ref C) = true ∧ PySem.W.subIn X.K (.ref C) (.type "BaseException") = some true ∧ PySem.W.typeIn X.K (.ref C) = some (.type "type")) (hg : Gl X x := by rfl) (hdb : (x == ("__debug__" : Str)) = false := by decide) :
    PFS X L (.Raise (some (.Call (.Name x p) [.Constant (.str m) j p2] [] pos)) none pos') (fRaise x) :=
  PS_imp (ps_raise hc tk (pmk_own PySem.F.excBase_ValueError q.1 gC q.2.1 (raises_own q.2.2.1 q.2.2.2) hg hdb)) fun D σ H ⟨Z, Y, s, Ef, r, kk, h, eo⟩ => eo.xx x C Z H σ s (Same.refl _) kk r h gC
theorem pf_globI {i : Int} (h : ∃ t, X.mg x = some (.int i t)) (hg : Gl X x := by rfl) (hd : (x == ("__debug__" : Str)) = false := by decide) : PF X L (.Name x pos) (fC (.int i)) := by
  obtain ⟨t, e⟩ := h
  exact pf_C (pe_glob (v := .int i) hg e ⟨t, rfl⟩ hd) fun _ => .int i
/-- a power of constants -/
theorem pf_powC {i j : Int} (r : Int) {k1 k2 : Nat} {p1 p2 : Pos} (h1 : 0 ≤ j := by decide) (h2 : j ≤ 1000000 := by decide) (h3 : i.natAbs < 2 ^ 64 := by decide) (e : i ^ j.toNat = r := by decide) : PF X L (.BinOp (.Constant (.int i) k1 p1) .Pow (.Constant (.int j) k2 p2) pos) (fC (.int r)) :=
  PE_imp (pf_op fop_pow pf_int pf_int) fun σ H Q ⟨Z, Y, s, Xf, Qf, rl, kk, xo, h, q⟩ => ⟨Z, Y, s, Xf, Qf, rl, kk, xo, ⟨h1, h2, h3, by rw [e]; exact h⟩, q⟩
theorem bb_len : bootBuiltins "len" = some (.builtin "len") := by decide +kernel
theorem bb_max : bootBuiltins "max" = some (.builtin "max") := by decide +kernel
theorem bb_min : bootBuiltins "min" = some (.builtin "min") := by decide +kernel
theorem bb_all : bootBuiltins "all" = some (.builtin "all") := by decide +kernel
theorem bb_any : bootBuiltins "any" = some (.builtin "any") := by decide +kernel
theorem bb_sorted : bootBuiltins "sorted" = some (.builtin "sorted") := by decide +kernel
theorem bb_int : bootBuiltins "int" = some (.type "int") := by decide +kernel
theorem bb_tuple : bootBuiltins "tuple" = some (.type "tuple") := by decide +kernel
theorem bb_list : bootBuiltins "list" = some (.type "list") := by decide +kernel
theorem bb_bool : bootBuiltins "bool" = some (.type "bool") := by decide +kernel
theorem lawSp {sem : FSem} {H : Hp} {a : Addr} {ns : List Int} {ms : List Bool} (hS : SqL K H a (ns.map V.int)) (hz : ns.length ≤ sizeLine) (h : sem [.d (litD ns)] (fun _ _ => False) (fun r _ => r = .d (.bool true))) :
    liftSp K mg (ioOf ms) 1 sem [.ref a] H (fun v _ => v = .bl true) fun _ _ _ => False := by
  refine ⟨H, fun _ => none, [.d (litD ns)], _, _, rfl, ⟨Same.refl _, fun a q e => (nomatch e), fun _ _ => rfl, fun _ _ e => (nomatch e), rfl, ⟨fun _ => [], ⟨fun i => ?_, fun _ => .nil, fun i j a ha => (nomatch ha), fun i a ha => (nomatch ha)⟩⟩⟩, h, ?_, ?_⟩
  · cases i with
    | zero => exact ⟨rfl, .ref a, rfl, .lit hS hz⟩
    | succ i => exact rfl
  · intro u H' Z' σ' fin r hz kk hl rx nt e
    subst e
    have q := rx.vd
    cases q
    rfl
  · intro n C H' Z' σ' fin _ _ _ _ h _
    exact h.elim
theorem walk_ofBE {l : PySem.W.OpenLaw} {n k : Nat} {q : Program} {loose : List Str} {XP : (Str → Option Value) → Heap → Prop} {YP : World → Heap → Prop} {d : DefRec} {ms : List Bool} {sem : FSem}
    (hn : l.most = some n) (hn2 : n ≤ sizeLine) (hdf : d.params.defaults = []) (hr : Room k callerA)
    (F : ∀ (w : World) (mg : Str → Option Value) (f : Addr) (h : Heap), YP w h → h.Ns mainGlobals mg → mg d.name = some (.ref f) →
      ∃ (K : PySem.W.Frag) (fd : FuncData), K.In h ∧ (∀ (s : Shared) (u : Value), BindsTo s fd ⟨[u], []⟩ [("script", u)]) ∧
        ∀ base : Heap, K.In base → base.Ns mainGlobals mg → FnOk l.prog w K mg base (L2.CX l.prog w) k f fd ["script"] (liftSp K mg (ioOf ms) 1 sem))
    (law : ∀ ns : List Int, ns.length ≤ n → (∀ z ∈ ns, Builtin.Int.intBits z ≤ 1048576) → sem [.d (litD ns)] (fun _ _ => False) (fun r _ => r = .d (.bool true))) :
    PySem.W.WalkO q loose XP YP l.row.toRowW d [] (fun f vs => PySem.call f vs) := by
  refine Att.attach_callB hn hdf fun w s₀ s₁ mg mb f o pm cd doc a vs ns G Y ho hd hcd hmg hobj hints hlen hbits hg => ?_
  obtain ⟨K, fd, KX, hb, hF⟩ := F w mg f _ Y G.T.g hmg
  exact law_call KX G.T.g G.T.b G.T.builtins G.T.nolimit hg hobj hints (Nat.le_trans hlen hn2) hr hF hb (fun H hO hS => lawSp hS (Nat.le_trans hlen hn2) (law ns hlen hbits)) fun H e s' ⟨_, _, _, _, _, _, _, _, _, _, _, _, z⟩ => z
end
end Hs
namespace Hs
open PySem PySem.Spec PyProof.Rows L2
def iEnumL (a : FA) : FI := fun X s Q => a X s fun rs s1 => frzAll rs s1 fun ds s2 => match ds with
  | [.list xs] => Q (enumD xs) s2
  | [.tuple xs] => Q (enumD xs) s2
  | _ => False
def iZipS (a : FA) : FI := fun X s Q => a X s fun rs s1 => frzAll rs s1 fun ds s4 => match ds with
  | [.list xs, .list ys] => Q (zipD xs ys) s4
  | [.tuple xs, .tuple ys] => Q (zipD xs ys) s4
  | _ => False
abbrev mkT (xs : List D) : R := .d (.tuple xs)
def fRg1 (mk : List D → R) (a : FE) : FE := fun X s Q => a X s fun r s1 => match r with
  | .d (.int j) => RgOk 0 j ∧ Q (mk (rangeD 0 j.toNat)) s1
  | _ => False
def fRg2 (mk : List D → R) (a b : FE) : FE := fun X s Q => a X s fun r1 s1 => b X s1 fun r2 s2 => match r1, r2 with
  | .d (.int i), .d (.int j) => RgOk i j ∧ Q (mk (rangeD i (j - i).toNat)) s2
  | _, _ => False
section
variable {X : Cx} {L : Lv} {e a b c : Expr} {es : List Expr} {fa fb fc : FE} {fr : FA} {pos p : Pos} {K : PySem.W.Frag} {Z H : Hp}
theorem enumD_get {xs : List D} {i : Nat} {d : D} (h : xs[i]? = some d) : (enumD xs)[i]? = some (.tuple [.int (i : Nat), d]) := by
  unfold enumD
  rw [List.getElem?_map, List.getElem?_zipIdx, h]
  simp
theorem enumD_len {xs : List D} : (enumD xs).length = xs.length := by unfold enumD; simp
theorem walks_enum {q : Addr} {vs : List V} {xs : List D} (h : SqL K Z q vs) (r : RpAll K Z vs xs) : Walks K Z (Ite K q) (enumD xs) where
  stop := fun i H e hi => ⟨vs, e.seq h, by rw [r.length]; rw [enumD_len] at hi; exact hi⟩
  go := fun i H e hi => by
    rw [enumD_len] at hi
    exact ⟨vs, vs[i]'(by rw [r.length]; exact hi), e.seq h, by simp⟩
  yld := fun i H v H' Zc e1 e2 hi ⟨T, x, ev, hT, eh, hv⟩ => by
    subst ev eh
    obtain ⟨d, hd, rd⟩ := r.getV (hv vs ((e1.trans e2).seq h))
    exact ⟨_, upd Zc T _, enumD_get hd, NewR.tup (xs := [.int (i : Nat), d]) e2 hT (by show 2 ≤ 16777216; decide) (.cons (.int _) (.cons (rd.same e1) .nil))⟩
set_option maxHeartbeats 4000000 in
theorem meets_enumerate_new1 {v : Value} {o : Obj} {H : Heap → Prop} (B : Begins v o H) :
    Meets (Builtin.«enumerate.__new__» ⟨[.type "enumerate", v], []⟩) (fun _ R s => H s.heap ∧
      R (.ok (.ret (.ref (s.heap.push o).objs.size))) { s with heap := (s.heap.push o).push { cls := .type "enumerate", data := .fields #[.none, .bool false, .ref s.heap.objs.size, rawInt 0, .none, .none] } }) :=
  .of_wp fun prog w A R s h => by
    obtain ⟨hp, g, d, tk, os⟩ := s; obtain ⟨h1, h⟩ := h
    have hsub := sub_enumerate
    have q1 : ∀ {A' : Around} {E : Value → Shared → Prop} {Q : Value → Shared → Prop}, Q (.ref hp.objs.size) ⟨hp.push o, g, d, tk, os⟩ → wpAny (model prog w) A' (pyIter v) Q E ⟨hp, g, d, tk, os⟩ :=
      fun q => B.iter prog w _ _ ⟨hp, g, d, tk, os⟩ _ h1 q
    wp_walk using q1
    refine wpAny_stack_any fun st => wpAny_pure ?_
    split
    · rename_i c _ _ _ _ _
      cases (c == Value.type "enumerate")
      · wp_walk using q1
        exact ⟨_, rfl, h⟩
      · wp_walk using q1
        exact ⟨_, rfl, h⟩
    · wp_walk using q1
      exact ⟨_, rfl, h⟩
theorem call_enumerate_tuple {prog : Program} {w : World} {A : Around} {E : Value → Shared → Prop} {s : Shared} {l : Addr} {items : Array Value} {Q : Value → Shared → Prop} (hL : s.heap.IsTuple l items)
    (h : ∀ h', IsEnum h' (s.heap.objs.size + 1) s.heap.objs.size 0 .none → h'.IsTupleIter s.heap.objs.size l 0 → h'.objs.size = s.heap.objs.size + 2 →
      (∀ b o, s.heap.get? b = some o → h'.get? b = some o) → Q (.ref (s.heap.objs.size + 1)) { s with heap := h' }) :
    wpAny (model prog w) A (call (.type "enumerate") [.ref l]) Q E s := by
  refine callType_new F.called_enumerate (by decide) (F.typeCall_enumerate_1 _) (F.newCall_enumerate_1 _) (fun obj => F.args_object_init_2 obj _) F.entry_enumerate_new
    (meets_enumerate_new1 (begins_tuple l items)) ⟨hL, ?_⟩
  have hz : (s.heap.push { cls := .type "tuple_iterator", data := .fields #[.ref l, .int 0 0] }).objs.size = s.heap.objs.size + 1 := Heap.size_push ..
  show _ ∧ _
  rw [hz]
  have he : IsEnum ((s.heap.push { cls := .type "tuple_iterator", data := .fields #[.ref l, .int 0 0] }).push
      { cls := .type "enumerate", data := .fields #[.none, .bool false, .ref s.heap.objs.size, rawInt 0, .none, .none] }) (s.heap.objs.size + 1) s.heap.objs.size 0 .none := by
    have := Heap.get?_push_size (s.heap.push { cls := .type "tuple_iterator", data := .fields #[.ref l, .int 0 0] })
      (o := { cls := .type "enumerate", data := .fields #[.none, .bool false, .ref s.heap.objs.size, rawInt 0, .none, .none] }) rfl
    rw [hz] at this; exact this
  refine ⟨⟨_, he, rfl⟩, h _ he ⟨_, Heap.get?_push_of_some _ (Heap.get?_push_size _ rfl), rfl, rfl⟩ (by rw [Heap.size_push, hz]) fun b o x => Heap.get?_push_of_some _ (Heap.get?_push_of_some _ x)⟩
theorem drawn_out {prog : Program} {w : World} {A : Around} (hh : A.handled = none) (it t : Addr) (items : Array Value) (i : Nat) (hi : items[i]? = none) :
    Draws prog w A it [it, t] i (fun _ _ => False) (fun j h => j = i ∧ h.IsTupleIter it t i ∧ h.IsTuple t items) where
  live := fun _ _ st => let ⟨o, ho, _⟩ := st.2.1; ⟨o, ho⟩
  frame := fun _ _ _ st hk => ⟨st.1, st.2.1.at fun o e => hk it (by simp) o e, st.2.2.at fun o e => hk t (by simp) o e⟩
  item := fun j s Q E hj st hQ => by have := st.1; omega
  done := fun s Q E st hE => wpAny_nextOf_tuple_end hh st.2.1 st.2.2 hi hE
def IteT (K : PySem.W.Frag) (a : Addr) : It :=
  ⟨fun i H => ∃ (xs : List V) (x : V), SqT K H a xs ∧ xs[i]? = some x, fun i H v H' => ∃ T x, v = .ref T ∧ H T = none ∧ H' = upd H T (.tup [.int (i : Nat), x]) ∧ ∀ xs, SqT K H a xs → xs[i]? = some x, fun i H => ∃ xs : List V, SqT K H a xs ∧ xs.length ≤ i⟩
theorem turn_enumT {P : Program} {w : World} {K : PySem.W.Frag} {elts : List Expr} {kk : Nat} {tpos : Pos} (a e it : Addr) :
    Turn P w K (.Tuple elts kk tpos) (IteT K a) [e, it] e (fun i h => (∃ old, IsEnum h e it ((i : Nat) : Int) old) ∧ h.IsTupleIter it a i ∧ e ≠ it ∧ e ≠ a ∧ a ≠ it) where
  mem := by simp
  obj := fun i h st b hb => by
    obtain ⟨⟨old, he⟩, ⟨o, ho, hc, hd⟩, _⟩ := st
    have e' : b = e ∨ b = it := by simpa using hb
    rcases e' with z | z
    · rw [z]; exact ⟨_, he, fun v q => nomatch q⟩
    · rw [z]; exact ⟨o, ho, fun v q => by rw [hd] at q; cases q⟩
  keep := fun i h h' st k => let ⟨⟨old, he⟩, hi, hne⟩ := st; ⟨⟨old, k e (by simp) _ he⟩, hi.at fun o q => k it (by simp) o q, hne⟩
  item := by
    intro X hP hw hK hc i pins s σ H E I hf st hg
    subst hP hw hK
    obtain ⟨⟨old, he⟩, hit, hne, hea, hai⟩ := st
    obtain ⟨xs, x, hq, hx⟩ := hg
    obtain ⟨its, rv, p, hz⟩ := I.tuple hq
    obtain ⟨u, hu, ru⟩ := rv.get hx
    have hel : e < s.heap.objs.size := Heap.lt_size he
    have hil : it < s.heap.objs.size := by obtain ⟨_, q, _⟩ := hit; exact Heap.lt_size q
    have hil2 : i < its.toArray.size := by
      have := (List.getElem?_eq_some_iff.mp hu).1
      simpa using this
    refine wpAny_pyNext_enum_itemC (A := X.A) (Draws.tuple (A := X.A.in1) (I.ok.hd hc) it a hai its.toArray) he ⟨hit, p⟩ hil2 hne (by simp [hne, hea]) fun y h' tk hy ho hs' hT hsz hk => ?_
    have hyu : y = u := by
      have : its.toArray[i]? = some u := by simpa using hu
      rw [this] at hy; exact (Option.some.inj hy).symm
    subst hyu
    refine ⟨_, rfl, wpAny_letOwnedTupleGo_enum (s := { s with heap := h', toks := tk + 1 }) ho fun h'' he' sb => ?_⟩
    have hT2 : h''.get? s.heap.objs.size = some { cls := .type "tuple", data := .seq #[.int i tk, y] } := (sb.2 _ (Nat.ne_of_gt hel)).trans hT
    have new : ObjOk X.prog X.w (upd H s.heap.objs.size (.tup [.int (i : Nat), x])) h'' s.heap.objs.size (.tup [.int (i : Nat), x]) :=
      ⟨by show 2 ≤ sizeLine; decide, [.int i tk, y], .cons ⟨_, rfl⟩ (.cons ru .nil), ⟨_, hT2, rfl, _, rfl⟩⟩
    have I1 : Inv X pins σ (upd H s.heap.objs.size (.tup [.int (i : Nat), x])) { s with heap := h'', toks := tk + 1 } :=
      I.turnedNew (ch := [e, it]) (fun b ob hb q => (sb.2 b (fun z => hb (by simp [z]))).trans (hk b ob (fun z => hb (by simp [z])) (fun z => hb (by simp [z])) q)) hf (Nat.le_refl _) new
    refine ⟨.ref s.heap.objs.size, _, I1, rfl, ⟨_, x, rfl, I.hok.fresh (Nat.le_refl _), rfl, fun ys hy => by rw [I.tuple_inj hy hq]; exact hx⟩, ⟨⟨y, ?_⟩, hs'.1.at fun o q => (sb.2 it (Ne.symm hne)).trans q, hne, hea, hai⟩, fun b hb => ?_⟩
    · have e1 : ((i + 1 : Nat) : Int) = (i : Int) + 1 := by omega
      rw [e1]; exact he'
    · have hb' : b < s.heap.objs.size := by
        have e' : b = e ∨ b = it := by simpa using hb
        rcases e' with z | z
        · rw [z]; exact hel
        · rw [z]; exact hil
      rw [upd_ne (Nat.ne_of_lt hb')]
      exact (hf b hb).1
  done := by
    intro X hP hw hK hc i pins s σ H E I hf st hg
    subst hP hw hK
    obtain ⟨⟨old, he⟩, hit, hne, hea, hai⟩ := st
    obtain ⟨xs, hq, hx⟩ := hg
    obtain ⟨its, rv, p, hz⟩ := I.tuple hq
    obtain ⟨f0, f1, f2, f3, f4, f5⟩ := hf it (by simp)
    have hl := rv.length
    refine wpAny_pyNext_enum_endD (A := X.A) (drawn_out (A := X.A.in1) (I.ok.hd hc) it a its.toArray i (by simp; omega)) he ⟨rfl, hit, p⟩ fun h' eb => ⟨rfl, I.turned (t' := s.toks) (fun b o hb q => eb b o hb q) f0 f1 f3 f4 f5⟩
  self := fun A i s Q E st h => let ⟨⟨_, he⟩, _⟩ := st; wpAny_pyIter_enum he h
def iEnumB (K : PySem.W.Frag) (ta : TA) : TI := fun σ H R => ta σ H fun vs H1 => ∃ a xs, vs = [.ref a] ∧ ((SqL K H1 a xs ∧ R (Ite K a) H1) ∨ (SqT K H1 a xs ∧ R (IteT K a) H1))
theorem pi_enumB {X : Cx} {e : Expr} {ta : TA} {p pos tpos : Pos} {elts : List Expr} {kk : Nat} (hg : Gl X "enumerate") (hm : X.mg "enumerate" = none) (ha : PA X [e] ta) (hs : starEach [e] X.env = [(false, eval e X.env)] := by rfl) :
    PI X (.Tuple elts kk tpos) (.Call (.Name "enumerate" p) [e] [] pos) (iEnumB X.K ta) := by
  refine ⟨fun pins s σ H R I h => ?_⟩
  refine Call_ (ld_blt I hg hm boot_enumerate (PyProof.Rows.callWith_type1 (thn (ha.run pos pins s σ H _ I h) fun us s1 ⟨vs, H1, I1, r1, q1⟩ => ?_) hs rfl))
  obtain ⟨a, xs, ex, q⟩ := q1
  subst ex
  cases r1 with
  | cons r rr =>
    cases rr
    cases r
    have apart : ∀ b, b = s1.heap.objs.size + 1 ∨ b = s1.heap.objs.size → s1.heap.objs.size ≤ b := fun b e' => by
      rcases e' with z | z
      · rw [z]; exact Nat.le_add_right _ _
      · rw [z]; exact Nat.le_refl _
    rcases q with ⟨hq, q⟩ | ⟨hq, q⟩
    · obtain ⟨its, rv, p', hz⟩ := I1.list hq
      refine call_enumerate_list p'.isList fun h' he hit hsz hk => wpAny_pyIter_enum he ?_
      have I2 : Inv X pins σ H1 { s1 with heap := h' } := I1.kept (t' := s1.toks) hk
      refine ⟨s1.heap.objs.size + 1, [s1.heap.objs.size + 1, s1.heap.objs.size], _, _, H1, rfl, I2, turn_enum a (s1.heap.objs.size + 1) s1.heap.objs.size, ⟨⟨.none, he⟩, hit, Nat.succ_ne_self _⟩, fun b hb => ?_, q⟩
      have hle := apart b (by simpa using hb)
      exact I1.fpOk hle (I1.hok.fresh hle)
    · obtain ⟨its, rv, p', hz⟩ := I1.tuple hq
      have hal : a < s1.heap.objs.size := by obtain ⟨_, q, _⟩ := p'; exact Heap.lt_size q
      refine call_enumerate_tuple p' fun h' he hit hsz hk => wpAny_pyIter_enum he ?_
      have I2 : Inv X pins σ H1 { s1 with heap := h' } := I1.kept (t' := s1.toks) hk
      refine ⟨s1.heap.objs.size + 1, [s1.heap.objs.size + 1, s1.heap.objs.size], _, _, H1, rfl, I2, turn_enumT a (s1.heap.objs.size + 1) s1.heap.objs.size, ⟨⟨.none, he⟩, hit, Nat.succ_ne_self _, (fun e => Nat.lt_irrefl _ (Nat.lt_trans (Nat.lt_succ_self _) (e ▸ hal))), Nat.ne_of_lt hal⟩, fun b hb => ?_, q⟩
      have hle := apart b (by simpa using hb)
      exact I1.fpOk hle (I1.hok.fresh hle)
theorem walks_enumT {q : Addr} {vs : List V} {xs : List D} (h : SqT K Z q vs) (r : RpAll K Z vs xs) : Walks K Z (IteT K q) (enumD xs) where
  stop := fun i H e hi => ⟨vs, same_sqT e h, by rw [r.length]; rw [enumD_len] at hi; exact hi⟩
  go := fun i H e hi => by
    rw [enumD_len] at hi
    exact ⟨vs, vs[i]'(by rw [r.length]; exact hi), same_sqT e h, by simp⟩
  yld := fun i H v H' Zc e1 e2 hi ⟨T, x, ev, hT, eh, hv⟩ => by
    subst ev eh
    obtain ⟨d, hd, rd⟩ := r.getV (hv vs (same_sqT (e1.trans e2) h))
    exact ⟨_, upd Zc T _, enumD_get hd, NewR.tup (xs := [.int (i : Nat), d]) e2 hT (by show 2 ≤ 16777216; decide) (.cons (.int _) (.cons (rd.same e1) .nil))⟩
theorem pfi_enum {elts : List Expr} {kk : Nat} {tpos : Pos} (hg : Gl X "enumerate") (hm : X.mg "enumerate" = none) (ha : PFA X L [a] fr) (hs : starEach [a] X.env = [(false, eval a X.env)] := by rfl) :
    PFI X L (.Tuple elts kk tpos) (.Call (.Name "enumerate" p) [a] [] pos) (iEnumL fr) := PI_imp (pi_enumB hg hm ha hs) fun σ H R ⟨Z, Y, s, Xf, Qf, r, k, xo, h, q⟩ => by
  refine ⟨Z, Y, s, Xf, _, r, k, xo, h, fun vs H1 Z1 rs s1 hz rx hn h1 => ?_⟩
  obtain ⟨Z2, ds, s2, hz2, rx2, h2⟩ := frzAll_ok (us := []) (ds := []) rx rfl h1
  have ra := rx2.rps
  split at h2
  · cases ra with
    | cons r1 r2 =>
      cases r2
      cases r1 with
      | lst hq hl hr => exact ⟨_, _, rfl, .inl ⟨.inl (same_rd rx2.rel0.zh hq), q _ H1 Z2 s2 _ (hz.trans hz2) rx2.rel0 (walks_enum (.inl hq) hr) h2⟩⟩
  · cases ra with
    | cons r1 r2 =>
      cases r2
      cases r1 with
      | tup hq hl hr =>
        have hq := tupSq (K := X.K) hq
        exact ⟨_, _, rfl, .inr ⟨same_sqT rx2.rel0.zh hq, q _ H1 Z2 s2 _ (hz.trans hz2) rx2.rel0 (walks_enumT hq hr) h2⟩⟩
  · exact h2.elim
theorem rg_all {i j : Int} : RpAll K Z (rgV i j) (rangeD i (j - i).toNat) := by
  unfold rgV rangeD
  generalize (j - i).toNat = n
  induction n with
  | zero => exact .nil
  | succ n ih =>
    rw [List.range_succ, List.map_append, List.map_append]
    exact ih.append (.cons (.int _) .nil)
theorem rg_len {i j : Int} (h : RgOk i j) : (rgV i j).length ≤ sizeLine := by
  rw [rgV_length]
  obtain ⟨_, _, _, _, h5⟩ := h
  show _ ≤ 16777216
  omega
theorem newT {v : List V} {ds : List D} {σ : St} {H : Hp} {Q : VK} {Z Y : Hp} {s : S} {Qf : R → S → Prop} (r : Rel K Z Y H σ s) (hl : v.length ≤ sizeLine) (ra : RpAll K Z v ds) (h : Qf (.d (.tuple ds)) s)
    (q : ∀ v H' Z' r s', Same Z Z' → RelX K Z' Y H' σ s' [v] [r] → Qf r s' → Q v H') : ∀ p, H p = none → Q (.ref p) (upd H p (.tup v)) := fun p hp => by
  have n : NewR K Z H _ _ (.ref p) (.d (.tuple ds)) := .tup r.zh hp hl ra
  exact q _ _ _ _ s n.hz (r.new n) h
theorem newLs {v : List V} {ds : List D} {σ : St} {H : Hp} {Q : VK} {Z Y : Hp} {s : S} {Qf : R → S → Prop} (r : Rel K Z Y H σ s) (hl : v.length ≤ sizeLine) (ra : RpAll K Z v ds) (h : Qf (.own (.l ds)) s)
    (q : ∀ v H' Z' r s', Same Z Z' → RelX K Z' Y H' σ s' [v] [r] → Qf r s' → Q v H') : ∀ p, H p = none → Q (.ref p) (upd H p (.lst v)) := fun p hp => by
  have n : NewR K Z H _ _ (.ref p) (.own (.l ds)) := .lst r.zh hp hl ra
  exact q _ _ _ _ s n.hz (r.new n) h
theorem pf_tRg1 {p2 pos2 : Pos} (hc : X.calm = true) (hm : X.mg "tuple" = none) (hm2 : X.mg "range" = none) (ha : PF X L a fa) (hg : Gl X "tuple" := by rfl) (hg2 : Gl X "range" := by rfl) (hs : starEach [a] X.env = (false, eval a X.env) :: starEach [] X.env := by rfl)
    (na : starEach [.Call (.Name "range" p2) [a] [] pos2] X.env = (false, eval (.Call (.Name "range" p2) [a] [] pos2) X.env) :: starEach [] X.env := by rfl) : PF X L (.Call (.Name "tuple" p) [.Call (.Name "range" p2) [a] [] pos2] [] pos) (fRg1 mkT fa) :=
  PE_imp (pe_tupRg hc hg hm (prg_1 hg2 hm2 ha hs) na) fun σ H Q ⟨Z, Y, s, Xf, Qf, r, k, xo, h, q⟩ => by
  refine ⟨Z, Y, s, Xf, _, r, k, xo, h, fun v H1 Z1 r1 s1 hz rx h1 => ?_⟩
  split at h1
  · rename_i j
    exact ⟨j, rx.vi, h1.1, newT rx.rel0 (rg_len h1.1) rg_all (by rw [Int.sub_zero]; exact h1.2) fun v H' Z' r s' hz' => q v H' Z' r s' (hz.trans hz')⟩
  · exact h1.elim
theorem RpAll.rev {vs : List V} {ds : List D} (r : RpAll K Z vs ds) : RpAll K Z vs.reverse ds.reverse := by
  induction vs generalizing ds with
  | nil => cases r; exact .nil
  | cons v vs ih =>
    cases r with
    | cons h t =>
      rw [List.reverse_cons, List.reverse_cons]
      exact (ih t).append (.cons h .nil)
section
variable {prog : Program} {w : World} {A : Around} {E : Value → Shared → Prop} {s : Shared}
theorem adjust_rev (n : Nat) : Builtin.Slice.sliceAdjust none none (-1) (n : Int) = ((n : Int) - 1, -1) := by
  unfold Builtin.Slice.sliceAdjust
  simp
theorem places_rev (n : Nat) : Builtin.Slice.slicePlaces ((n : Int) - 1) (-1) (-1) = n := by
  unfold Builtin.Slice.slicePlaces
  simp
  omega
theorem applied_rev {sl : Addr} {vs : Value} {n : Nat} {Q : Int × Int × Nat → Shared → Prop} (hs : s.heap.IsSliceOf sl .none .none vs) (ps : IsPart vs (some (-1))) (h : Q ((n : Int) - 1, -1, n) s) :
    wpAny (model prog w) A (Builtin.Slice.sliceApplied (.ref sl) (pure (n : Int))) Q E s := by
  obtain ⟨os, hos, hcs, hds⟩ := id hs
  unfold Builtin.Slice.sliceApplied Builtin.Slice.sliceFields
  refine wpAny_bind (wpAny_bind (wpAny_field hos hds (x := .none) rfl ?_))
  refine wpAny_bind (wpAny_field hos hds (x := .none) rfl ?_)
  refine wpAny_bind (wpAny_field hos hds (x := vs) rfl (wpAny_pure ?_))
  refine wpAny_bind (HT.slicePart_ ps ?_)
  show wpAny _ _ (if ((-1 : Int) == 0) = true then _ else _) _ _ s
  rw [if_neg (by decide)]
  refine wpAny_bind (HT.slicePart_ .none ?_)
  refine wpAny_bind (HT.slicePart_ .none ?_)
  refine wpAny_bind (wpAny_pure ?_)
  show wpAny _ _ (match Builtin.Slice.sliceAdjust none none (-1) (n : Int) with | (lo, hi) => pure (lo, (-1 : Int), Builtin.Slice.slicePlaces lo hi (-1))) _ _ s
  rw [adjust_rev]
  show wpAny _ _ (pure ((n : Int) - 1, (-1 : Int), Builtin.Slice.slicePlaces ((n : Int) - 1) (-1) (-1))) _ _ s
  rw [places_rev]
  exact wpAny_pure h
theorem fm_congr {α β : Type} {f g : α → Option β} : ∀ l : List α, (∀ x ∈ l, f x = g x) → l.filterMap f = l.filterMap g
  | [], _ => rfl
  | x :: l, h => by
    rw [List.filterMap_cons, List.filterMap_cons, h x List.mem_cons_self, fm_congr l fun y hy => h y (List.mem_cons_of_mem _ hy)]
theorem pick_rev (xs : Array Value) : ((List.range xs.size).filterMap fun (m : Nat) => xs[(((xs.size : Int) - 1) + (m : Int) * (-1)).toNat]?).toArray = xs.toList.reverse.toArray := by
  congr 1
  have e : ∀ m ∈ List.range xs.size, xs[(((xs.size : Int) - 1) + (m : Int) * (-1)).toNat]? = xs[xs.size - 1 - m]? := fun m hm => by
    have := List.mem_range.mp hm
    rw [show (((xs.size : Int) - 1) + (m : Int) * (-1)).toNat = xs.size - 1 - m by omega]
  rw [fm_congr _ e]
  have e2 : (fun m => xs[xs.size - 1 - m]?) = (fun k => xs[k]?) ∘ fun m => xs.size - 1 - m := rfl
  rw [e2, ← List.filterMap_map, PySem.W.krv_range, List.filterMap_reverse, PySem.W.krv_all]
theorem getItem_rev {t sl : Addr} {items : Array Value} {vs : Value} {Q : Value → Shared → Prop} (ht : IsTup s.heap t items) (hs : s.heap.IsSliceOf sl .none .none vs) (ps : IsPart vs (some (-1)))
    (h : Q (.ref s.heap.objs.size) { s with heap := s.heap.push { cls := .type "tuple", data := .seq items.toList.reverse.toArray } }) (hsz : items.size ≤ sizeLine) : wpAny (model prog w) A (getItem (.ref t) (.ref sl)) Q E s := by
  have fits : sizeOk (.seq items.toList.reverse.toArray) := by
    show items.toList.reverse.toArray.size ≤ sizeLine
    rw [List.size_toArray, List.length_reverse, Array.length_toList]; exact hsz
  obtain ⟨os, hos, hcs, hds⟩ := id hs
  have tyS : s.TypeIs (.ref sl) "slice" := ⟨os, hos, hcs⟩
  unfold getItem
  try with_reducible refine wpAny_holding ?_
  first | refine wpAny_bind (wpAny_pure ?_) | skip
  refine wpAny_bind (wpAny_sequenceKey ht.typeIs (by decide) ?_)
  refine wpAny_bind (wpAny_callSpecial?_slot (name := Str.ofString "__getitem__") ht.typeIs PyProof.Rows.slot_tuple_getitem ?_)
  refine wpAny_call_entry PyProof.Rows.slot_tuple_getitem ht.typeIs entry_tuple_getitem ?_ (args_tuple_getitem _ _)
  show wpAny _ _ (Builtin.Tuple.tupleItemsOf (.ref t) >>= _) _ _ s
  refine wpAny_bind (tupleItemsOf_ ht ?_)
  refine wpAny_bind (wpAny_typeOf tyS ?_)
  rw [if_pos (by decide)]
  refine wpAny_bind (applied_rev hs ps ?_)
  show wpAny _ _ (if (((items.size : Int) - 1) == 0 && (-1 : Int) == 1 && items.size == items.size) = true then _ else _) _ _ s
  rw [if_neg (by simp), pick_rev]
  first
    | exact wpAny_bind (m := Builtin.Tuple.tupleExact _) (wpAny_newObj_type (wpAny_pure ⟨_, rfl, wpAny_pure h⟩) fits)
    | exact wpAny_bind (m := Builtin.Tuple.tupleExact _) (wpAny_newObj_type (wpAny_bind (wpAny_pure (wpAny_pure ⟨_, rfl, wpAny_pure h⟩))) fits)
    | exact wpAny_bind (wpAny_bind (m := Builtin.Tuple.tupleExact _) (wpAny_newObj_type (wpAny_pure (wpAny_pure ⟨_, rfl, wpAny_pure h⟩)) fits))
    | exact wpAny_bind (wpAny_bind (m := Builtin.Tuple.tupleExact _) (wpAny_newObj_type (wpAny_pure ⟨_, rfl, wpAny_pure h⟩) fits))
end
/-- the value at e, then its items turned about -/
theorem pe_rev {te : TE} {k : Nat} {p1 p2 p3 : Pos} (he : PE X e te) : PE X (.Subscript e (.Slice none none (some (.UnaryOp .USub (.Constant (.int 1) k p1) p2)) p3) pos)
    (fun σ H Q => te σ H fun x H1 => ∃ a xs, x = .ref a ∧ ((SqL X.K H1 a xs ∧ ∀ p, H1 p = none → Q (.ref p) (upd H1 p (.lst xs.reverse))) ∨ (SqT X.K H1 a xs ∧ ∀ p, H1 p = none → Q (.ref p) (upd H1 p (.tup xs.reverse))))) := by
  refine ⟨fun pins s σ H Q I h => ?_⟩
  refine Subscript_ (thn (he.run pins s σ H _ I h) fun v s1 ⟨x, H1, I1, r1, q1⟩ => ?_)
  obtain ⟨a, xs, ex, hx⟩ := q1
  subst ex
  cases r1
  have step : PO X (some (.UnaryOp .USub (.Constant (.int 1) k p1) p2)) (tPart (tUn (rU fun i => .int (-i)) (tC (.int 1)))) := po_some (pe_un un_neg pe_int)
  refine wpAny_Slice (thn (po_none.run pins s1 σ H1 (fun o G => o = none ∧ G = H1) I1 ⟨rfl, rfl⟩) ?_)
  rintro vl s2 ⟨l, H2, I2, pl, rfl, rfl⟩
  refine thn (po_none.run pins s2 σ H2 (fun o G => o = none ∧ G = H2) I2 ⟨rfl, rfl⟩) ?_
  rintro vu s3 ⟨u, H3, I3, pu, rfl, rfl⟩
  refine thn (step.run pins s3 σ H3 (fun o G => o = some (-1) ∧ G = H3) I3 ⟨1, rfl, -1, rfl, rfl, rfl⟩) ?_
  rintro vs s4 ⟨o, H4, I4, ps, rfl, rfl⟩
  have I5 : Inv X pins σ H4 { s4 with heap := s4.heap.push { cls := .type "slice", data := .fields #[vl, vu, vs] } } := I4.kept (t' := s4.toks) fun b ob q => Heap.get?_push_of_some _ q
  show wpAny (model X.prog X.w) X.A (subscriptTail e _ (.ref a) (.ref s4.heap.objs.size)) (EP X pins σ Q) X.xe { s4 with heap := s4.heap.push { cls := .type "slice", data := .fields #[vl, vu, vs] } }
  cases pl
  cases pu
  rcases hx with ⟨hx, q⟩ | ⟨hx, q⟩
  · obtain ⟨its, r, ht, hz⟩ := I5.list hx
    have hlen := r.length
    refine tail_any (ops := [.ref a, .ref s4.heap.objs.size]) ht.isList.typeIs (PySem.slot_list_getitem.lookup) ?_ (by with_unfolding_all rfl)
    refine wpAny_getItem_list_slice ht.isList (Heap.IsSliceOf.new _ .none .none vs) .none .none ps (by decide) ?_ (by rw [List.size_toArray]; omega)
    rw [PySem.W.krv_pick]
    refine ⟨.ref _, _, I5.laid (t' := s4.toks) (o := .lst xs.reverse) (fun b ob q => Heap.get?_push_of_some _ q) (Nat.le_refl _) ?_, rfl, q _ (I5.hok.fresh (Nat.le_refl _))⟩
    exact ⟨by rw [List.length_reverse]; exact hz, _, 0, r.reverse, Heap.get?_push_size _ rfl⟩
  · obtain ⟨its, r, ht, hz⟩ := I5.tuple hx
    have hlen := r.length
    refine tail_any (ops := [.ref a, .ref s4.heap.objs.size]) ht.typeIs (PyProof.Rows.slot_tuple_getitem.lookup) ?_ (by with_unfolding_all rfl)
    refine getItem_rev ht (Heap.IsSliceOf.new _ .none .none vs) ps ?_ (by rw [List.size_toArray]; omega)
    refine ⟨.ref _, _, I5.laid (t' := s4.toks) (o := .tup xs.reverse) (fun b ob q => Heap.get?_push_of_some _ q) (Nat.le_refl _) ?_, rfl, q _ (I5.hok.fresh (Nat.le_refl _))⟩
    exact ⟨by rw [List.length_reverse]; exact hz, _, r.reverse, IsTup.new _ _⟩
theorem pf_rev {k : Nat} {p1 p2 p3 : Pos} (he : PF X L e fa) : PF X L (.Subscript e (.Slice none none (some (.UnaryOp .USub (.Constant (.int 1) k p1) p2)) p3) pos) (fUn revD fa) :=
  PE_imp (pe_rev he) fun σ H Q ⟨Z, Y, s, Xf, Qf, r, k, xo, h, q⟩ => by
  refine ⟨Z, Y, s, Xf, _, r, k, xo, h, fun v H1 Z1 r1 s1 hz rx h1 => ?_⟩
  obtain ⟨d, e1, h3⟩ := look_ok h1
  obtain ⟨v', ev, rv⟩ := rx.look (k := 0) rfl e1
  cases ev
  unfold revD at h3
  split at h3
  · obtain ⟨p, vs, rfl, g1, g2, g3⟩ := rv.list rx.rel0.zh
    exact ⟨p, vs, rfl, .inl ⟨.inl g1, newLs rx.rel0 (by rw [List.length_reverse]; exact g2) g3.rev h3 fun v H' Z' r s' hz' => q v H' Z' r s' (hz.trans hz')⟩⟩
  · obtain ⟨p, vs, rfl, g1, g2, g3⟩ := rv.tuple rx.rel0.zh
    exact ⟨p, vs, rfl, .inr ⟨g1, newT rx.rel0 (by rw [List.length_reverse]; exact g2) g3.rev h3 fun v H' Z' r s' hz' => q v H' Z' r s' (hz.trans hz')⟩⟩
  · exact h3.elim
section
variable {prog : Program} {w : World} {A : Around} {E : Value → Shared → Prop} {s : Shared}
theorem collect_tuple {l : Addr} {vs : List Value} {Q : List Value → Shared → Prop} (hl : s.heap.IsTuple l vs.toArray)
    (h : Q vs { s with heap := (s.heap.push (seqObj "list" #[] 0)).update s.heap.objs.size (Obj.mapSeq (· ++ vs.toArray)) }) (hsz : vs.length ≤ sizeLine := by size_fits) :
    wpAny (model prog w) A (collect (.ref l)) Q E s := by
  obtain ⟨o, ho, hc, n, hd⟩ := id hl
  unfold collect
  refine wpAny_bind (wpAny_runValue (codeAny_builtin entry_proto_collect' ?_))
  show wpAny _ _ (do again (.builtin "list.__iadd__" ⟨[← newList [], .ref l], []⟩)) _ _ s
  refine wpAny_bind (wpAny_newList (wpAny_pure ⟨Code.quiet_builtin _ (by decide +kernel), codeAny_builtin entry_list_iadd' ?_⟩))
  show wpAny _ _ (Builtin.List.listExtendWith (.ref s.heap.objs.size) (.ref l) (.ref s.heap.objs.size)) _ _ { s with heap := s.heap.push (seqObj "list" #[] 0) }
  unfold Builtin.List.listExtendWith
  have ho' : (s.heap.push (seqObj "list" #[] 0)).get? l = some o := Heap.get?_push_of_some _ ho
  refine wpAny_bind (wpAny_typeOf (T := "tuple") ⟨o, ho', hc⟩ ?_)
  have ht : (Value.type "tuple" == Value.type "tuple") = true := by rfl
  rw [if_pos (by rw [ht]; simp)]
  refine wpAny_bind (listItems_at ho' hd ?_)
  refine wpAny_bind (listItems_at (xs := #[]) (n := 0) (Heap.get?_push_size _ rfl) rfl ?_)
  rw [if_neg (by simp)]
  refine wpAny_bind (listUpdate_at (xs := #[]) (n := 0) (Heap.get?_push_size _ rfl) rfl ?_ (Nat.zero_le _) (by show (#[] ++ vs.toArray).size ≤ sizeLine + 1; simp only [Array.size_append, List.size_toArray, List.length_nil]; omega))
  refine wpAny_pure ?_
  show wpAny (model prog w) A (do
      let o ← load s.heap.objs.size
      match o.data with
      | .seq xs _ => pure xs.toList
      | _ => unsupported "internal:collect") Q E { s with heap := (s.heap.push (seqObj "list" #[] 0)).update s.heap.objs.size (Obj.mapSeq (· ++ vs.toArray)) }
  refine wpAny_bind (wpAny_load (get?_update_seq (Heap.get?_push_size _ rfl) _) ?_)
  show wpAny _ _ (pure ((#[] : Array Value) ++ vs.toArray).toList) Q E _
  rw [show ((#[] : Array Value) ++ vs.toArray).toList = vs by simp]
  exact wpAny_pure h
theorem sorted_intsTup {l : Addr} {vs : List Value} {ns : List Int} {Q : Value → Shared → Prop} (hl : s.heap.IsTuple l vs.toArray) (hI : IntsAre vs ns) (hL : vs.length ≤ sizeLine)
    (h : ∀ (out : Array Value) (ns' : List Int), IntsAre out.toList ns' → ns'.Perm ns → ns'.Pairwise (· ≤ ·) → Q (.ref (s.heap.objs.size + 1)) { s with heap := sortedAll s.heap vs out }) :
    wpAny (model prog w) A (call (.builtin "sorted") [.ref l]) Q E s := by
  refine Calls.call_function_entry kind_sorted plain_sorted entry_sorted (args_sorted1 _) ?_
  unfold Builtin.«sorted»
  refine wpAny_bind (m := checkCount "sorted" 1 1 _) (wpAny_pure ?_)
  refine wpAny_bind (collect_tuple hl ?_)
  refine wpAny_bind (wpAny_newList ?_)
  have hsz : ((s.heap.push (seqObj "list" #[] 0)).update s.heap.objs.size (Obj.mapSeq (· ++ vs.toArray))).objs.size = s.heap.objs.size + 1 := by
    rw [Heap.size_update, size_push']
  have hoL : (((s.heap.push (seqObj "list" #[] 0)).update s.heap.objs.size (Obj.mapSeq (· ++ vs.toArray))).push (seqObj "list" vs.toArray 0)).get? (s.heap.objs.size + 1) = some (seqObj "list" vs.toArray 0) := by
    rw [← hsz]; exact Heap.get?_push_size _ rfl
  show wpAny _ _ _ _ _ { s with heap := ((s.heap.push (seqObj "list" #[] 0)).update s.heap.objs.size (Obj.mapSeq (· ++ vs.toArray))).push (seqObj "list" vs.toArray 0) }
  rw [hsz]
  refine wpAny_bind (wpAny_holding (wpAny_call_entry slot_list_sort ⟨_, hoL, rfl⟩ entry_list_sort (list_sort_treeAny hoL hI hL fun out ns' a1 a2 a3 => ⟨_, rfl, ?_⟩) (args_list_sort _)))
  exact wpAny_pure ⟨_, rfl, h out ns' a1 a2 a3⟩
end
def rSortedT (K : PySem.W.Frag) : List V → Hp → VK → Prop := fun vs H Q => ∃ (a : Addr) (ns : List Int), vs = [V.ref a] ∧ SqT K H a (ns.map V.int) ∧
  ∀ (ns' : List Int) (p : Addr), ns'.Perm ns → ns'.Pairwise (· ≤ ·) → H p = none → Q (.ref p) (upd H p (.lst (ns'.map V.int)))
theorem cr_sortedT {X : Cx} : CallR X (.builtin "sorted") (rSortedT X.K) := by
  intro pins s σ H vs us Q I r h
  obtain ⟨a, ns, rfl, hs, q⟩ := h
  obtain ⟨its, rv, hl, hz⟩ := I.tuple hs
  rw [Vals.ref1 r]
  have hi := rv.ints
  have hz' : ns.length ≤ sizeLine := by rw [List.length_map] at hz; exact hz
  refine sorted_intsTup hl hi (by rw [hi.length]; exact hz') fun out ns' h1 h2 h3 => ?_
  obtain ⟨ep, he'⟩ := PyProof.Rows.sortedAll_at s.heap its out
  have hlen : (ns'.map V.int).length ≤ sizeLine := by rw [List.length_map, h2.length_eq]; exact hz'
  exact ⟨.ref _, upd H (s.heap.objs.size + 1) (.lst (ns'.map V.int)), I.laid (t' := s.toks) (fun _ _ => PyProof.Rows.sortedAll_old) (Nat.le_succ _) ⟨hlen, out.toList, ep, vals_of_ints h1, he'⟩, rfl, q ns' _ h2 h3 (I.hok.fresh (Nat.le_succ _))⟩
theorem fb_sortI : CallR X (.builtin "sorted") (rFN X.K bSortI) := by
  intro pins s σ H vs us Q I rv ⟨Z, ds, Qf, hz, rr, g, q⟩
  unfold bSortI at g
  split at g
  · split at g
    · rename_i eb
      obtain ⟨v, rfl, r1⟩ := rr.one
      obtain ⟨p, vs, rfl, h1, h2, h3⟩ := r1.list hz
      rw [intsOf_eq eb] at h3
      have h2' := h3.length
      rw [h3.ints] at h1 h2
      refine cr_sortedI pins s σ H _ us Q I rv ⟨p, _, rfl, .inl h1, fun ns' p' hp hs hn => ?_⟩
      exact q _ _ Z _ (.lst hz hn (by rw [List.length_map] at h2 ⊢; rw [hp.length_eq]; exact h2) (RpAll.of_ints ns')) (g ns' hp hs)
    · exact g.elim
  · exact g.elim
theorem pairOf_eq {d : D} {p : Int × Int} (h : pairOf d = some p) : d = pairD p := by
  unfold pairOf at h
  split at h
  · cases h; rfl
  · cases h
theorem pairsOf_eq : ∀ {xs : List D} {ps : List (Int × Int)}, pairsOf xs = some ps → xs = ps.map pairD
  | [], ps, h => by cases h; rfl
  | x :: xs, ps, h => by
    have h : (match pairOf x, pairsOf xs with | some p, some ps => some (p :: ps) | _, _ => none) = some ps := h
    cases e : pairOf x with
    | none => rw [e] at h; cases h
    | some p =>
      cases e2 : pairsOf xs with
      | none => rw [e, e2] at h; cases h
      | some qs =>
        rw [e, e2] at h
        cases h
        rw [pairOf_eq e, pairsOf_eq e2]; rfl
theorem rp_pair {v : V} {p : Int × Int} (r : Rp K Z v (pairD p)) : ∃ t, v = .ref t ∧ SqT K Z t [.int p.1, .int p.2] := by
  unfold pairD at r
  cases r with
  | tup h z a =>
    cases a with
    | cons a1 a2 =>
      cases a2 with
      | cons a2 a3 =>
        cases a3; cases a1; cases a2
        exact ⟨_, rfl, tupSq h⟩
open Classical in
/-- which pair stands at an address of the frozen part -/
noncomputable def keyZ (K : PySem.W.Frag) (Z : Hp) (v : V) : Int × Int := if h : ∃ p, Rp K Z v (pairD p) then h.choose else (0, 0)
theorem sorted_pairs {pins : List (Addr × Obj)} {s : Shared} {σ : St} {H : Hp} {q : Addr} {vs : List V} {Q : VK} (k : V → Int × Int) (I : Inv X pins σ H s) (hs : SqL X.K H q vs) (hx : ∀ x ∈ vs, ∃ t, x = V.ref t ∧ SqT X.K H t [.int (k x).1, .int (k x).2])
    (g : ∀ ys p, SrtO.Srtd (ltP k) ys → SrtO.Stb (ltP k) ys vs → H p = none → Q (.ref p) (upd H p (.lst ys))) : wpAny (model X.prog X.w) X.A (call (.builtin "sorted") [.ref q]) (EP X pins σ Q) X.xe s := by
  obtain ⟨its, rv, hl, hz⟩ := I.list hs
  obtain ⟨e1, e2⟩ := refs_back rv fun x m => by
    obtain ⟨t, e, _⟩ := hx x m
    exact ⟨t, e⟩
  have len := rv.length
  refine SrtO.sorted_pairsO (k := fun u => k (backV u)) hl.isList (by rw [← len]; exact hz) ?_ ?_
  · intro v hv
    obtain ⟨t, rfl⟩ := e2 v hv
    have hm : V.ref t ∈ vs := by
      rw [e1]
      exact List.mem_map.mpr ⟨_, hv, rfl⟩
    obtain ⟨t', e, ht⟩ := hx _ hm
    cases e
    obtain ⟨us, ru, ⟨o, ho, hc, n, hd⟩, _⟩ := I.tuple ht
    obtain ⟨u1, u2, rfl, ri, rj⟩ := vals2 ru
    obtain ⟨t1, rfl⟩ := ri
    obtain ⟨t2, rfl⟩ := rj
    exact ⟨t, o, t1, t2, n, rfl, ho, hc, hd⟩
  · intro h' d out h1 h2 kp hd ⟨n, hn⟩
    have back : ∀ u ∈ out, ∃ a, u = Value.ref a := fun u hu => e2 u (h2.perm.mem_iff.mp hu)
    have hb : SrtO.Stb (ltP k) (out.map backV) vs := by
      rw [e1]
      exact SrtO.Stb.map (ltP_swo k) backV h2
    refine ⟨.ref d, upd H d (.lst (out.map backV)), I.laid (t' := s.toks) kp hd ⟨?_, out, n, vals_back back, hn⟩, rfl, g _ d (SrtO.srtd_map h1) hb (I.hok.fresh hd)⟩
    rw [hb.len]
    exact hz
theorem rp_pair_key {v : V} {p : Int × Int} (one : ∀ (t : Addr) (xs ys : List V), SqT K Z t xs → SqT K Z t ys → xs = ys) (r : Rp K Z v (pairD p)) : keyZ K Z v = p := by
  classical
  have h : ∃ p, Rp K Z v (pairD p) := ⟨p, r⟩
  unfold keyZ
  rw [dif_pos h]
  have hc := h.choose_spec
  generalize h.choose = p' at hc
  obtain ⟨t, rfl, h1⟩ := rp_pair r
  obtain ⟨t', e, h2⟩ := rp_pair hc
  cases e
  have : ([.int p.1, .int p.2] : List V) = [.int p'.1, .int p'.2] := one t _ _ h1 h2
  injection this with a1 a2
  injection a2 with a2 _
  injection a1 with a1
  injection a2 with a2
  exact Prod.ext a1.symm a2.symm
theorem fb_sortP : CallR X (.builtin "sorted") (rFN X.K bSortP) := by
  intro pins s σ H vs us Q I rv ⟨Z, ds, Qf, hz, rr, g, q⟩
  unfold bSortP at g
  split at g
  · split at g
    · rename_i eb
      obtain ⟨v, rfl, r1⟩ := rr.one
      obtain ⟨p, vs, rfl, h1, h2, h3⟩ := r1.list hz
      rw [pairsOf_eq eb] at h3
      obtain ⟨u, rfl, ru⟩ := vals1 rv
      cases ru
      have each : ∀ {vs : List V} {ps : List (Int × Int)}, RpAll X.K Z vs (ps.map pairD) → (∀ x ∈ vs, ∃ t, x = V.ref t ∧ SqT X.K H t [.int (keyZ X.K Z x).1, .int (keyZ X.K Z x).2]) ∧ vs.map (keyZ X.K Z) = ps ∧ ∀ x ∈ vs, Rp X.K Z x (pairD (keyZ X.K Z x)) := by
        intro vs
        induction vs with
        | nil =>
          intro ps ra
          cases ps with
          | nil => exact ⟨fun x hx => (nomatch hx), rfl, fun x hx => (nomatch hx)⟩
          | cons p ps => cases ra
        | cons v vs ih =>
          intro ps ra
          cases ps with
          | nil => cases ra
          | cons p ps =>
            cases ra with
            | cons a1 a2 =>
              obtain ⟨i1, i2, i3⟩ := ih a2
              have ek := rp_pair_key (fun t xs ys a b => I.tuple_inj (same_sqT hz a) (same_sqT hz b)) a1
              obtain ⟨t, et, ht⟩ := rp_pair a1
              refine ⟨fun x hx => ?_, by rw [List.map_cons, ek, i2], fun x hx => ?_⟩
              · rcases List.mem_cons.mp hx with rfl | hx
                · exact ⟨t, et, by rw [ek]; exact same_sqT hz ht⟩
                · exact i1 x hx
              · rcases List.mem_cons.mp hx with rfl | hx
                · rw [ek]; exact a1
                · exact i3 x hx
      obtain ⟨i1, i2, i3⟩ := each h3
      refine sorted_pairs (keyZ X.K Z) I (.inl h1) i1 fun ys p' hs hb hn => ?_
      have hp := hb.perm
      have ry : RpAll X.K Z ys ((ys.map (keyZ X.K Z)).map pairD) := by
        have all : ∀ x ∈ ys, Rp X.K Z x (pairD (keyZ X.K Z x)) := fun x hx => i3 x (hp.mem_iff.mp hx)
        clear hs hb hn hp
        induction ys with
        | nil => exact .nil
        | cons y ys ih => exact .cons (all y List.mem_cons_self) (ih fun x hx => all x (List.mem_cons_of_mem _ hx))
      refine q _ _ Z _ (.lst hz hn (by rw [hp.length_eq]; exact h2) ry) (g _ (by rw [← i2]; exact hp.map _) ?_)
      have hs' : ys.Pairwise fun x y => ltP (keyZ X.K Z) y x = false := hs
      rw [List.pairwise_map]
      refine hs'.imp fun {x y} h => ?_
      have h := SrtO.lexB_no.mp h
      unfold ltPr
      simp only [Bool.or_eq_false_iff, Bool.and_eq_false_iff, decide_eq_false_iff_not, beq_eq_false_iff_ne, ne_eq]
      omega
    · exact g.elim
  · exact g.elim
end
end Hs
namespace Hs
open PySem PySem.Spec PyProof.Rows L2
/-- the order of tuples of ints -/
def lexL : List Int → List Int → Bool
  | [], [] => false
  | [], _ :: _ => true
  | _ :: _, [] => false
  | a :: as, b :: bs => if a = b then lexL as bs else decide (a < b)
theorem lexL_cons {a b : Int} {as bs : List Int} : lexL (a :: as) (b :: bs) = if a = b then lexL as bs else decide (a < b) := rfl
theorem lexL_asym : ∀ {as bs : List Int}, lexL as bs = true → lexL bs as = false
  | [], [], h => by cases h
  | [], _ :: _, _ => rfl
  | _ :: _, [], h => by cases h
  | a :: as, b :: bs, h => by
    rw [lexL_cons] at h ⊢
    by_cases e : a = b
    · rw [if_pos e] at h
      rw [if_pos e.symm]
      exact lexL_asym h
    · rw [if_neg e] at h
      rw [if_neg (Ne.symm e)]
      have := of_decide_eq_true h
      exact decide_eq_false (by omega)
theorem lexL_tr : ∀ {as bs cs : List Int}, lexL as bs = false → lexL bs cs = false → lexL as cs = false
  | [], [], _, _, h => h
  | [], _ :: _, _, h, _ => by cases h
  | _ :: _, [], [], _, _ => rfl
  | _ :: _, [], _ :: _, _, h => by cases h
  | _ :: _, _ :: _, [], _, _ => rfl
  | a :: as, b :: bs, c :: cs, h1, h2 => by
    rw [lexL_cons] at h1 h2 ⊢
    by_cases e1 : a = b
    · rw [if_pos e1] at h1
      subst e1
      by_cases e2 : a = c
      · rw [if_pos e2] at h2 ⊢
        exact lexL_tr h1 h2
      · rw [if_neg e2] at h2 ⊢
        exact h2
    · rw [if_neg e1] at h1
      have l1 := of_decide_eq_false h1
      by_cases e2 : b = c
      · subst e2
        rw [if_neg e1]
        exact h1
      · rw [if_neg e2] at h2
        have l2 := of_decide_eq_false h2
        rw [if_neg (by omega)]
        exact decide_eq_false (by omega)
theorem lexL_eq : ∀ {as bs : List Int}, lexL as bs = false → lexL bs as = false → as = bs
  | [], [], _, _ => rfl
  | [], _ :: _, h, _ => by cases h
  | _ :: _, [], _, h => by cases h
  | a :: as, b :: bs, h1, h2 => by
    rw [lexL_cons] at h1 h2
    by_cases e : a = b
    · rw [if_pos e] at h1
      rw [if_pos e.symm] at h2
      rw [e, lexL_eq h1 h2]
    · rw [if_neg e] at h1
      rw [if_neg (Ne.symm e)] at h2
      have := of_decide_eq_false h1
      have := of_decide_eq_false h2
      omega
theorem lexL_swo {α : Type} (k : α → List Int) : SrtO.Swo fun v u => lexL (k v) (k u) := ⟨fun x y h => lexL_asym h, fun x y z h1 h2 => lexL_tr h2 h1⟩
section
variable {prog : Program} {w : World} {A : Around} {E : Value → Shared → Prop} {s : Shared}
def IsTupI (h : Heap) (v : Value) (ns : List Int) : Prop := ∃ a o us n, v = .ref a ∧ h.get? a = some o ∧ o.cls = .type "tuple" ∧ o.data = .seq (List.toArray us) n ∧ IntsAre us ns
theorem IsTupI.keeps {h h' : Heap} {v : Value} {ns : List Int} (p : IsTupI h v ns) (k : ∀ b o, h.get? b = some o → o.cls = .type "tuple" → h'.get? b = some o) : IsTupI h' v ns := by
  obtain ⟨a, o, us, n, e, ho, hc, hd, hi⟩ := p
  exact ⟨a, o, us, n, e, k _ _ ho hc, hc, hd, hi⟩
theorem kat_tups {fin : Bool} : ∀ {xs ys : List Value} {ns ms : List Int} (i : Nat), IntsAre xs ns → IntsAre ys ms → fin = decide (ns.length < ms.length) →
    PySem.W.KatLex prog w A true fin (fun r s' => s' = s ∧ r = lexL ns ms) (xs.zip ys) i s
  | _, _, _, _, _, .nil, .nil, e => PySem.W.kat_nil ⟨rfl, e⟩
  | _, _, _, _, _, .nil, .cons _ _ _, e => PySem.W.kat_nil ⟨rfl, by rw [e]; exact decide_eq_true (by simp)⟩
  | _, _, _, _, _, .cons _ _ _, .nil, e => PySem.W.kat_nil ⟨rfl, by rw [e]; exact decide_eq_false (by simp)⟩
  | _, _, _, _, i, .cons x t hx, .cons y u hy, e => by
    refine PySem.W.kat_cons (SeqAt.EqAt.int_int x t y u prog w _ _ ?_)
    rw [lexL_cons]
    refine PySem.W.kat_go (fun e1 => ?_) (fun e1 => ?_)
    · have ex : x = y := by simpa using e1
      rw [if_pos ex]
      exact PySem.W.kat_yes (kat_tups (i + 1) hx hy (by rw [e]; simp))
    · have ex : ¬ x = y := by simpa using e1
      rw [if_neg ex]
      exact PySem.W.kat_no (TS.oneLt_ints _ ⟨rfl, rfl⟩)
theorem tup_cmp {vs : List Value} {k : Value → List Int} (hp : ∀ v ∈ vs, IsTupI s.heap v (k v)) : SrtO.Cmp prog w A s (tuples' true) (fun p => p.1 ∈ vs) (SrtO.lt2 fun v u => lexL (k v) (k u)) := by
  intro p q hm hm'
  obtain ⟨a, o, us, n, e, ho, hc, hd, hi⟩ := hp _ hm
  obtain ⟨a', o', us', n', e', ho', hc', hd', hi'⟩ := hp _ hm'
  show wpAny (model prog w) A (keyLt' (tuples' true) p.1 q.1) (fun r s' => s' = s ∧ r = lexL (k p.1) (k q.1)) (fun _ _ => False) s
  generalize k p.1 = ns at hi ⊢
  generalize k q.1 = ms at hi' ⊢
  rw [e, e']
  refine PySem.W.kat_lt ho hd ho' hd' ?_
  exact kat_tups 0 hi hi' (by rw [List.size_toArray, List.size_toArray, hi.length, hi'.length])
theorem firstsT {h : Heap} : ∀ {vs : List Value} {k : Value → List Int}, (∀ v ∈ vs, IsTupI h v (k v) ∧ k v ≠ []) → ∃ fs : List Value, PySem.W.KatTups h vs fs ∧ fs.length = vs.length ∧ ∀ f ∈ fs, ∃ x t, f = Value.int x t
  | [], _, _ => ⟨[], PySem.W.KatTups.nil, rfl, fun _ hm => by simp at hm⟩
  | v :: vs, k, hp => by
    obtain ⟨fs, h1, h2, h3⟩ := firstsT (vs := vs) fun v' hm => hp v' (List.mem_cons_of_mem _ hm)
    obtain ⟨⟨a, o, us, n, e, ho, hc, hd, hi⟩, hne⟩ := hp v (List.mem_cons_self ..)
    generalize k v = ns at hi hne
    subst e
    cases hi with
    | nil => exact (hne rfl).elim
    | cons x t hi =>
      refine ⟨.int x t :: fs, PySem.W.KatTups.cons ho hc hd rfl h1, by rw [List.length_cons, List.length_cons, h2], fun f hm => ?_⟩
      rcases List.mem_cons.mp hm with rfl | hm
      · exact ⟨x, t, rfl⟩
      · exact h3 f hm
theorem tups_sortableO {a : Addr} {vs : List Value} {k : Value → List Int} (h0 : 0 < vs.length) (hp : ∀ v ∈ vs, IsTupI s.heap v (k v) ∧ k v ≠ []) (ha : ∀ o, s.heap.get? a = some o → o.cls ≠ .type "tuple") : SrtO.SortableO prog w A s a vs fun v u => lexL (k v) (k u) := by
  intro h' keep
  have hp' : ∀ v ∈ vs, IsTupI h' v (k v) ∧ k v ≠ [] := fun v hm => ⟨(hp v hm).1.keeps fun b o e c => keep b o (fun z => by subst z; exact ha o e c) e, (hp v hm).2⟩
  obtain ⟨fs, h1, h2, h3⟩ := firstsT hp'
  refine ⟨tuples' true, fun Q E hq => ?_, tup_cmp fun v hv => (hp' v hv).1⟩
  refine PySem.W.kat_kind (T := .type "int") h1 (by omega) (fun f hm => ?_) (by rfl) ?_
  · obtain ⟨x, t, rfl⟩ := h3 f hm
    exact PySem.W.Looks.now
  · have e : (Value.type "int" != Value.type "tuple") = true := by first | decide +kernel | rfl | decide
    rw [e]
    exact hq
theorem sorted_tupsO {l : Addr} {vs : List Value} {k : Value → List Int} {Q : Value → Shared → Prop} (hl : s.heap.IsList l vs.toArray) (hz : vs.length ≤ sizeLine) (hp : ∀ v ∈ vs, IsTupI s.heap v (k v)) (hne : 2 ≤ vs.length → ∀ v ∈ vs, k v ≠ [])
    (h : ∀ (h' : Heap) (d : Addr) (out : List Value), SrtO.Srtd (fun v u => lexL (k v) (k u)) out → SrtO.Stb (fun v u => lexL (k v) (k u)) out vs → (∀ b o, s.heap.get? b = some o → h'.get? b = some o) → s.heap.objs.size ≤ d → (∃ n, h'.get? d = some (seqObj "list" out.toArray n)) → Q (.ref d) { s with heap := h' }) :
    wpAny (model prog w) A (call (.builtin "sorted") [.ref l]) Q E s := by
  refine SrtO.sorted_ord (lexL_swo k) hl hz (fun h2 h₁ a ha kk => ?_) fun out hs hb => ?_
  · refine tups_sortableO (s := { s with heap := h₁ }) (by omega) (fun v hm => ⟨(hp v hm).keeps fun b o e _ => (kk b o e).2, hne h2 v hm⟩) fun o e => ?_
    have e' : some o = some (seqObj "list" vs.toArray 0) := e.symm.trans ha
    cases e'
    intro c
    exact absurd (Value.type.inj c) (by decide)
  · exact h _ _ out hs hb (fun b o e => sortedAll_old e) (Nat.le_succ _) (sortedAll_at s.heap vs out.toArray)
end
section
variable {X : Cx}
theorem sorted_tups {pins : List (Addr × Obj)} {s : Shared} {σ : St} {H : Hp} {q : Addr} {vs : List V} {Q : VK} (k : V → List Int) (I : Inv X pins σ H s) (hs : SqL X.K H q vs) (hx : ∀ x ∈ vs, ∃ t, x = V.ref t ∧ SqT X.K H t ((k x).map V.int)) (hne : 2 ≤ vs.length → ∀ x ∈ vs, k x ≠ [])
    (g : ∀ ys p, SrtO.Srtd (fun x y => lexL (k x) (k y)) ys → SrtO.Stb (fun x y => lexL (k x) (k y)) ys vs → H p = none → Q (.ref p) (upd H p (.lst ys))) : wpAny (model X.prog X.w) X.A (call (.builtin "sorted") [.ref q]) (EP X pins σ Q) X.xe s := by
  obtain ⟨its, rv, hl, hz⟩ := I.list hs
  obtain ⟨e1, e2⟩ := refs_back rv fun x m => by
    obtain ⟨t, e, _⟩ := hx x m
    exact ⟨t, e⟩
  have len := rv.length
  have mem : ∀ v ∈ its, backV v ∈ vs := fun v hv => by
    rw [e1]
    exact List.mem_map.mpr ⟨_, hv, rfl⟩
  refine sorted_tupsO (k := fun u => k (backV u)) hl.isList (by rw [← len]; exact hz) ?_ (fun h2 v hv => hne (by rw [len]; exact h2) _ (mem v hv)) ?_
  · intro v hv
    have hm := mem v hv
    obtain ⟨t, rfl⟩ := e2 v hv
    obtain ⟨t', e, ht⟩ := hx _ hm
    have et : t' = t := by
      have : V.ref t = V.ref t' := e
      cases this; rfl
    subst et
    obtain ⟨us, ru, ⟨o, ho, hc, n, hd⟩, _⟩ := I.tuple ht
    exact ⟨t', o, us, n, rfl, ho, hc, hd, ints_of_vals ru⟩
  · intro h' d out h1 h2 kp hd ⟨n, hn⟩
    have back : ∀ u ∈ out, ∃ a, u = Value.ref a := fun u hu => e2 u (h2.perm.mem_iff.mp hu)
    have hb : SrtO.Stb (fun x y => lexL (k x) (k y)) (out.map backV) vs := by
      rw [e1]
      exact SrtO.Stb.map (lexL_swo k) backV h2
    refine ⟨.ref d, upd H d (.lst (out.map backV)), I.laid (t' := s.toks) kp hd ⟨?_, out, n, vals_back back, hn⟩, rfl, g _ d (SrtO.srtd_map h1) hb (I.hok.fresh hd)⟩
    rw [hb.len]
    exact hz
/-- items as tuples of ints -/
def tupI (ns : List Int) : D := .tuple (ns.map .int)
def tupOf : D → Option (List Int)
  | .tuple xs => intsOf xs
  | _ => none
def tupsOf : List D → Option (List (List Int))
  | [] => some []
  | x :: xs => match tupOf x, tupsOf xs with
    | some n, some ns => some (n :: ns)
    | _, _ => none
def bSortT : VN := fun ds Q => match ds with
  | [.list xs] => match tupsOf xs with
    | some nss => (2 ≤ nss.length → ∀ ns ∈ nss, ns ≠ []) ∧ ∀ mss : List (List Int), mss.Perm nss → mss.Pairwise (fun a b => lexL b a = false) → Q (.own (.l (mss.map tupI)))
    | none => False
  | _ => False
theorem tupOf_eq {d : D} {ns : List Int} (h : tupOf d = some ns) : d = tupI ns := by
  cases d with
  | tuple xs => rw [intsOf_eq (show intsOf xs = some ns from h)]; rfl
  | _ => cases h
theorem tupsOf_eq : ∀ {xs : List D} {nss : List (List Int)}, tupsOf xs = some nss → xs = nss.map tupI
  | [], nss, h => by cases h; rfl
  | x :: xs, nss, h => by
    have h : (match tupOf x, tupsOf xs with | some n, some ns => some (n :: ns) | _, _ => none) = some nss := h
    cases e : tupOf x with
    | none => rw [e] at h; cases h
    | some p =>
      cases e2 : tupsOf xs with
      | none => rw [e, e2] at h; cases h
      | some qs =>
        rw [e, e2] at h
        cases h
        rw [tupOf_eq e, tupsOf_eq e2]; rfl
section
variable {prog : Program} {w : World} {A : Around} {E : Value → Shared → Prop} {s : Shared}
open SrtO in
theorem sorted_ordT {l : Addr} {vs : List Value} {ltv : Value → Value → Bool} {Q : Value → Shared → Prop} (O : Swo ltv) (hl : s.heap.IsTuple l vs.toArray) (hz : vs.length ≤ sizeLine)
    (hS : 2 ≤ vs.length → ∀ (h₁ : Heap) (a : Addr), h₁.get? a = some (seqObj "list" vs.toArray 0) → (∀ b o, s.heap.get? b = some o → b ≠ a ∧ h₁.get? b = some o) → SortableO prog w A.in1.in1 { s with heap := h₁ } a vs ltv)
    (h : ∀ out : List Value, Srtd ltv out → Stb ltv out vs → Q (.ref (s.heap.objs.size + 1)) { s with heap := sortedAll s.heap vs out.toArray }) :
    wpAny (model prog w) A (call (.builtin "sorted") [.ref l]) Q E s := by
  refine Calls.call_function_entry kind_sorted plain_sorted entry_sorted (args_sorted1 _) ?_
  unfold Builtin.«sorted»
  refine wpAny_bind (m := checkCount "sorted" 1 1 _) (wpAny_pure ?_)
  refine wpAny_bind (collect_tuple hl ?_ hz)
  refine wpAny_bind (wpAny_newList ?_ hz)
  have hsz : ((s.heap.push (seqObj "list" #[] 0)).update s.heap.objs.size (Obj.mapSeq (· ++ vs.toArray))).objs.size = s.heap.objs.size + 1 := by
    rw [Heap.size_update, size_push']
  have hoL : (((s.heap.push (seqObj "list" #[] 0)).update s.heap.objs.size (Obj.mapSeq (· ++ vs.toArray))).push (seqObj "list" vs.toArray 0)).get? (s.heap.objs.size + 1) = some (seqObj "list" vs.toArray 0) := by
    rw [← hsz]; exact Heap.get?_push_size _ rfl
  have keep : ∀ b o, s.heap.get? b = some o → b ≠ s.heap.objs.size + 1 ∧ (((s.heap.push (seqObj "list" #[] 0)).update s.heap.objs.size (Obj.mapSeq (· ++ vs.toArray))).push (seqObj "list" vs.toArray 0)).get? b = some o := fun b o q => by
    have hlt : b < s.heap.objs.size := Heap.lt_size q
    refine ⟨Nat.ne_of_lt (Nat.lt_succ_of_lt hlt), Heap.get?_push_of_some _ ?_⟩
    rw [Heap.get?_update_ne _ _ _ _ (Nat.ne_of_lt hlt)]
    exact Heap.get?_push_of_some _ q
  show wpAny _ _ _ _ _ { s with heap := ((s.heap.push (seqObj "list" #[] 0)).update s.heap.objs.size (Obj.mapSeq (· ++ vs.toArray))).push (seqObj "list" vs.toArray 0) }
  rw [hsz]
  refine wpAny_bind (wpAny_holding (wpAny_call_entry slot_list_sort ⟨_, hoL, rfl⟩ entry_list_sort (list_sort_ord O hoL hz (fun h2 => hS h2 _ _ hoL keep) fun out hs hb => ⟨_, rfl, ?_⟩) (args_list_sort _)))
  exact wpAny_pure ⟨_, rfl, h out hs hb⟩
open SrtO in
theorem sorted_pairsOT {l : Addr} {vs : List Value} {k : Value → Int × Int} {Q : Value → Shared → Prop} (hl : s.heap.IsTuple l vs.toArray) (hz : vs.length ≤ sizeLine) (hp : ∀ v ∈ vs, Srt.IsPair s.heap v (k v).1 (k v).2)
    (h : ∀ (h' : Heap) (d : Addr) (out : List Value), Srtd (fun v u => lexB (k v) (k u)) out → Stb (fun v u => lexB (k v) (k u)) out vs → (∀ b o, s.heap.get? b = some o → h'.get? b = some o) → s.heap.objs.size ≤ d → (∃ n, h'.get? d = some (seqObj "list" out.toArray n)) → Q (.ref d) { s with heap := h' }) :
    wpAny (model prog w) A (call (.builtin "sorted") [.ref l]) Q E s := by
  refine sorted_ordT (swo_lex k) hl hz (fun h2 h₁ a ha kk => ?_) fun out hs hb => ?_
  · refine pairs_sortableO (s := { s with heap := h₁ }) (by omega) (fun v hm => (hp v hm).keeps fun b o e _ => (kk b o e).2) fun o e => ?_
    have e' : some o = some (seqObj "list" vs.toArray 0) := e.symm.trans ha
    cases e'
    intro c
    exact absurd (Value.type.inj c) (by decide)
  · exact h _ _ out hs hb (fun b o e => sortedAll_old e) (Nat.le_succ _) (sortedAll_at s.heap vs out.toArray)
end
def bSortPT : VN := fun ds Q => match ds with
  | [.tuple xs] => match pairsOf xs with
    | some ps => ∀ qs : List (Int × Int), qs.Perm ps → qs.Pairwise (fun p q => ltPr q p = false) → Q (.own (.l (qs.map pairD)))
    | none => False
  | _ => False
section
variable {K : PySem.W.Frag} {Z : Hp} {X : Cx}
theorem sorted_pairsT {pins : List (Addr × Obj)} {s : Shared} {σ : St} {H : Hp} {q : Addr} {vs : List V} {Q : VK} (k : V → Int × Int) (I : Inv X pins σ H s) (hs : SqT X.K H q vs) (hx : ∀ x ∈ vs, ∃ t, x = V.ref t ∧ SqT X.K H t [.int (k x).1, .int (k x).2])
    (g : ∀ ys p, SrtO.Srtd (ltP k) ys → SrtO.Stb (ltP k) ys vs → H p = none → Q (.ref p) (upd H p (.lst ys))) : wpAny (model X.prog X.w) X.A (call (.builtin "sorted") [.ref q]) (EP X pins σ Q) X.xe s := by
  obtain ⟨its, rv, hl, hz⟩ := I.tuple hs
  obtain ⟨e1, e2⟩ := refs_back rv fun x m => by
    obtain ⟨t, e, _⟩ := hx x m
    exact ⟨t, e⟩
  have len := rv.length
  refine sorted_pairsOT (k := fun u => k (backV u)) hl (by rw [← len]; exact hz) ?_ ?_
  · intro v hv
    obtain ⟨t, rfl⟩ := e2 v hv
    have hm : V.ref t ∈ vs := by
      rw [e1]
      exact List.mem_map.mpr ⟨_, hv, rfl⟩
    obtain ⟨t', e, ht⟩ := hx _ hm
    cases e
    obtain ⟨us, ru, ⟨o, ho, hc, n, hd⟩, _⟩ := I.tuple ht
    obtain ⟨u1, u2, rfl, ri, rj⟩ := vals2 ru
    obtain ⟨t1, rfl⟩ := ri
    obtain ⟨t2, rfl⟩ := rj
    exact ⟨t, o, t1, t2, n, rfl, ho, hc, hd⟩
  · intro h' d out h1 h2 kp hd ⟨n, hn⟩
    have back : ∀ u ∈ out, ∃ a, u = Value.ref a := fun u hu => e2 u (h2.perm.mem_iff.mp hu)
    have hb : SrtO.Stb (ltP k) (out.map backV) vs := by
      rw [e1]
      exact SrtO.Stb.map (ltP_swo k) backV h2
    refine ⟨.ref d, upd H d (.lst (out.map backV)), I.laid (t' := s.toks) kp hd ⟨?_, out, n, vals_back back, hn⟩, rfl, g _ d (SrtO.srtd_map h1) hb (I.hok.fresh hd)⟩
    rw [hb.len]
    exact hz
theorem fb_sortPT : CallR X (.builtin "sorted") (rFN X.K bSortPT) := by
  intro pins s σ H vs us Q I rv ⟨Z, ds, Qf, hz, rr, g, q⟩
  unfold bSortPT at g
  split at g
  · split at g
    · rename_i eb
      obtain ⟨v, rfl, r1⟩ := rr.one
      obtain ⟨p, vs, rfl, h1, h2, h3⟩ := r1.tuple hz
      rw [pairsOf_eq eb] at h3
      obtain ⟨u, rfl, ru⟩ := vals1 rv
      cases ru
      have each : ∀ {vs : List V} {ps : List (Int × Int)}, RpAll X.K Z vs (ps.map pairD) → (∀ x ∈ vs, ∃ t, x = V.ref t ∧ SqT X.K H t [.int (keyZ X.K Z x).1, .int (keyZ X.K Z x).2]) ∧ vs.map (keyZ X.K Z) = ps ∧ ∀ x ∈ vs, Rp X.K Z x (pairD (keyZ X.K Z x)) := by
        intro vs
        induction vs with
        | nil =>
          intro ps ra
          cases ps with
          | nil => exact ⟨fun x hx => (nomatch hx), rfl, fun x hx => (nomatch hx)⟩
          | cons p ps => cases ra
        | cons v vs ih =>
          intro ps ra
          cases ps with
          | nil => cases ra
          | cons p ps =>
            cases ra with
            | cons a1 a2 =>
              obtain ⟨i1, i2, i3⟩ := ih a2
              have ek := rp_pair_key (fun t xs ys a b => I.tuple_inj (same_sqT hz a) (same_sqT hz b)) a1
              obtain ⟨t, et, ht⟩ := rp_pair a1
              refine ⟨fun x hx => ?_, by rw [List.map_cons, ek, i2], fun x hx => ?_⟩
              · rcases List.mem_cons.mp hx with rfl | hx
                · exact ⟨t, et, by rw [ek]; exact same_sqT hz ht⟩
                · exact i1 x hx
              · rcases List.mem_cons.mp hx with rfl | hx
                · rw [ek]; exact a1
                · exact i3 x hx
      obtain ⟨i1, i2, i3⟩ := each h3
      refine sorted_pairsT (keyZ X.K Z) I h1 i1 fun ys p' hs hb hn => ?_
      have hp := hb.perm
      have ry : RpAll X.K Z ys ((ys.map (keyZ X.K Z)).map pairD) := by
        have all : ∀ x ∈ ys, Rp X.K Z x (pairD (keyZ X.K Z x)) := fun x hx => i3 x (hp.mem_iff.mp hx)
        clear hs hb hn hp
        induction ys with
        | nil => exact .nil
        | cons y ys ih => exact .cons (all y List.mem_cons_self) (ih fun x hx => all x (List.mem_cons_of_mem _ hx))
      refine q _ _ Z _ (.lst hz hn (by rw [hp.length_eq]; exact h2) ry) (g _ (by rw [← i2]; exact hp.map _) ?_)
      have hs' : ys.Pairwise fun x y => ltP (keyZ X.K Z) y x = false := hs
      rw [List.pairwise_map]
      refine hs'.imp fun {x y} h => ?_
      have h := SrtO.lexB_no.mp h
      unfold ltPr
      simp only [Bool.or_eq_false_iff, Bool.and_eq_false_iff, decide_eq_false_iff_not, beq_eq_false_iff_ne, ne_eq]
      omega
    · exact g.elim
  · exact g.elim
end
section
variable {K : PySem.W.Frag} {Z : Hp}
theorem rp_tupI {v : V} {ns : List Int} (r : Rp K Z v (tupI ns)) : ∃ t, v = .ref t ∧ SqT K Z t (ns.map V.int) := by
  unfold tupI at r
  cases r with
  | tup h z a =>
    rw [a.ints] at h
    exact ⟨_, rfl, tupSq h⟩
open Classical in
noncomputable def keyT (K : PySem.W.Frag) (Z : Hp) (v : V) : List Int := if h : ∃ ns, Rp K Z v (tupI ns) then h.choose else []
theorem map_int_inj : ∀ {ns ms : List Int}, ns.map V.int = ms.map V.int → ns = ms
  | [], [], _ => rfl
  | [], _ :: _, h => by cases h
  | _ :: _, [], h => by cases h
  | n :: ns, m :: ms, h => by
    rw [List.map_cons, List.map_cons] at h
    injection h with h1 h2
    injection h1 with h1
    rw [h1, map_int_inj h2]
theorem rp_tupI_key {v : V} {ns : List Int} (one : ∀ (t : Addr) (xs ys : List V), SqT K Z t xs → SqT K Z t ys → xs = ys) (r : Rp K Z v (tupI ns)) : keyT K Z v = ns := by
  classical
  have h : ∃ p, Rp K Z v (tupI p) := ⟨ns, r⟩
  unfold keyT
  rw [dif_pos h]
  have hc := h.choose_spec
  generalize h.choose = p' at hc
  obtain ⟨t, rfl, h1⟩ := rp_tupI r
  obtain ⟨t', e, h2⟩ := rp_tupI hc
  cases e
  exact map_int_inj (one t _ _ h2 h1)
end
theorem fb_sortT : CallR X (.builtin "sorted") (rFN X.K bSortT) := by
  intro pins s σ H vs us Q I rv ⟨Z, ds, Qf, hz, rr, g, q⟩
  unfold bSortT at g
  split at g
  · split at g
    · rename_i eb
      obtain ⟨v, rfl, r1⟩ := rr.one
      obtain ⟨p, vs, rfl, h1, h2, h3⟩ := r1.list hz
      rw [tupsOf_eq eb] at h3
      obtain ⟨u, rfl, ru⟩ := vals1 rv
      cases ru
      have each : ∀ {vs : List V} {ps : List (List Int)}, RpAll X.K Z vs (ps.map tupI) → (∀ x ∈ vs, ∃ t, x = V.ref t ∧ SqT X.K H t ((keyT X.K Z x).map V.int)) ∧ vs.map (keyT X.K Z) = ps ∧ ∀ x ∈ vs, Rp X.K Z x (tupI (keyT X.K Z x)) := by
        intro vs
        induction vs with
        | nil =>
          intro ps ra
          cases ps with
          | nil => exact ⟨fun x hx => (nomatch hx), rfl, fun x hx => (nomatch hx)⟩
          | cons p ps => cases ra
        | cons v vs ih =>
          intro ps ra
          cases ps with
          | nil => cases ra
          | cons p ps =>
            cases ra with
            | cons a1 a2 =>
              obtain ⟨i1, i2, i3⟩ := ih a2
              have ek := rp_tupI_key (fun t xs ys a b => I.tuple_inj (same_sqT hz a) (same_sqT hz b)) a1
              obtain ⟨t, et, ht⟩ := rp_tupI a1
              refine ⟨fun x hx => ?_, by rw [List.map_cons, ek, i2], fun x hx => ?_⟩
              · rcases List.mem_cons.mp hx with rfl | hx
                · exact ⟨t, et, by rw [ek]; exact same_sqT hz ht⟩
                · exact i1 x hx
              · rcases List.mem_cons.mp hx with rfl | hx
                · rw [ek]; exact a1
                · exact i3 x hx
      obtain ⟨i1, i2, i3⟩ := each h3
      have hlen := congrArg List.length i2
      rw [List.length_map] at hlen
      refine sorted_tups (keyT X.K Z) I (.inl h1) i1 (fun h2 x hx => g.1 (by rw [← hlen]; exact h2) _ (by rw [← i2]; exact List.mem_map.mpr ⟨x, hx, rfl⟩)) fun ys p' hs hb hn => ?_
      have hp := hb.perm
      have ry : RpAll X.K Z ys ((ys.map (keyT X.K Z)).map tupI) := by
        have all : ∀ x ∈ ys, Rp X.K Z x (tupI (keyT X.K Z x)) := fun x hx => i3 x (hp.mem_iff.mp hx)
        clear hs hb hn hp
        induction ys with
        | nil => exact .nil
        | cons y ys ih => exact .cons (all y List.mem_cons_self) (ih fun x hx => all x (List.mem_cons_of_mem _ hx))
      refine q _ _ Z _ (.lst hz hn (by rw [hp.length_eq]; exact h2) ry) (g.2 _ (by rw [← i2]; exact hp.map _) ?_)
      rw [List.pairwise_map]
      exact hs
    · exact g.elim
  · exact g.elim
/-- sorted, by what stands in the list -/
def bSorted : VN := fun ds Q => match ds with
  | [.list xs] => match intsOf xs with
    | some _ => bSortI [.list xs] Q
    | none => match pairsOf xs with
      | some _ => bSortP [.list xs] Q
      | none => bSortT [.list xs] Q
  | [.tuple xs] => match intsOf xs with
    | some ns => ∀ ms : List Int, ms.Perm ns → ms.Pairwise (· ≤ ·) → Q (.own (.l (ms.map .int)))
    | none => bSortPT [.tuple xs] Q
  | _ => False
theorem fb_sorted : CallR X (.builtin "sorted") (rFN X.K bSorted) := by
  intro pins s σ H vs us Q I rv ⟨Z, ds, Qf, hz, rr, g, q⟩
  unfold bSorted at g
  split at g
  · split at g
    · exact fb_sortI pins s σ H vs us Q I rv ⟨Z, _, Qf, hz, rr, g, q⟩
    · split at g
      · exact fb_sortP pins s σ H vs us Q I rv ⟨Z, _, Qf, hz, rr, g, q⟩
      · exact fb_sortT pins s σ H vs us Q I rv ⟨Z, _, Qf, hz, rr, g, q⟩
  · split at g
    · rename_i eb
      obtain ⟨v, rfl, r1⟩ := rr.one
      obtain ⟨p, vs, rfl, h1, h2, h3⟩ := r1.tuple hz
      rw [intsOf_eq eb] at h3
      rw [h3.ints] at h1 h2
      refine cr_sortedT pins s σ H _ us Q I rv ⟨p, _, rfl, h1, fun ns' p' hp hs hn => ?_⟩
      exact q _ _ Z _ (.lst hz hn (by rw [List.length_map] at h2 ⊢; rw [hp.length_eq]; exact h2) (RpAll.of_ints ns')) (g ns' hp hs)
    · exact fb_sortPT pins s σ H vs us Q I rv ⟨Z, _, Qf, hz, rr, g, q⟩
  · exact g.elim
end
end Hs
namespace Hs
open PySem PySem.Spec PyProof.Rows L2
end Hs
namespace Hs
open PySem PySem.Spec PyProof.Rows L2
def rowOf (r : R) (k : List D → Prop) : Prop :=
  match r with
  | .own (.l ds) => k ds
  | _ => False
theorem rowOf_ok {r : R} {k : List D → Prop} (h : rowOf r k) : ∃ ds, r = .own (.l ds) ∧ k ds := by
  cases r with
  | own w =>
    cases w with
    | l ds => exact ⟨ds, rfl, h⟩
    | _ => exact h.elim
  | _ => exact h.elim
def fCompL (X : XF) (g : FG) (wp : List Nat) (t : FT) (e : FE) (Q : R → S → Prop) : List D → List (List D) → S → Prop
  | [], acc, s => Q (.own (.ll acc)) s
  | x :: xs, acc, s => g x s fun s1 => t X s1 fun b s2 => if b = true then e X s2 fun r s3 => rowOf r fun ds => fCompL X g wp t e Q xs (acc ++ [ds]) (wipeS s3 wp) else fCompL X g wp t e Q xs acc (wipeS s2 wp)
def fLcL (it : FI) (g : FG) (wp : List Nat) (t : FT) (e : FE) : FE := fun X s Q => it X s fun xs s1 => xs.length ≤ sizeLine ∧ fCompL (fun _ _ => False) g wp t e Q xs [] (wipeS s1 wp)
/-- rows[j][k] = e, j and k in slots -/
def fSetLL (i ia ib : Nat) (a : FE) : FS := fun E s => a E.xx s fun r s1 => frz r s1 fun d s2 => ∃ xss k1 k2, s2.getD i .no = .ll xss ∧ s2.getD ia .no = .d (.int k1) ∧ s2.getD ib .no = .d (.int k2) ∧ 0 ≤ k1 ∧ k1.toNat < xss.length ∧ 0 ≤ k2 ∧ k2.toNat < (xss.getD k1.toNat []).length ∧
  E.nx (s2.set i (.ll (xss.set k1.toNat ((xss.getD k1.toNat []).set k2.toNat d))))
section
variable {K : PySem.W.Frag} {Z Y H : Hp} {σ : St} {s : S}
theorem Rel.newLL0 (r : Rel K Z Y H σ s) {p : Addr} (h : H p = none) : Rel K Z Y (upd H p (.lst [])) (σ ++ [some (.ref p)]) (s ++ [.ll []]) :=
  r.push (F := [p]) (same_upd h) (Same.refl _) (r.zh.trans (same_upd h)) (fun _ _ => rfl) ⟨p, [], rfl, rfl, upd_same, Nat.zero_le _, .nil⟩ (by simp) fun a ha => by
    obtain rfl : a = p := by simpa using ha
    exact ⟨h, r.fresh h⟩
theorem LL.snoc {q : Addr} {vs : List V} {xs : List D} (hq : H q = some (.lst vs)) (hl : vs.length ≤ sizeLine) (ha : RpAll K Z vs xs) : ∀ {qs : List Addr} {xss : List (List D)}, LL K Z H qs xss → LL K Z H (qs ++ [q]) (xss ++ [xs])
  | _, _, .nil => .cons hq hl ha .nil
  | _, _, .cons h z a r => .cons h z a (LL.snoc hq hl ha r)
theorem LL.len : ∀ {qs : List Addr} {xss : List (List D)}, LL K Z H qs xss → qs.length = xss.length
  | _, _, .nil => rfl
  | _, _, .cons _ _ _ r => congrArg (· + 1) r.len
theorem LL.get : ∀ {qs : List Addr} {xss : List (List D)} {j : Nat}, LL K Z H qs xss → j < xss.length → ∃ q vs, qs[j]? = some q ∧ H q = some (.lst vs) ∧ vs.length ≤ sizeLine ∧ RpAll K Z vs (xss.getD j [])
  | _, _, _, .nil, h => by simp at h
  | _, _, 0, .cons h z a r, _ => ⟨_, _, rfl, h, z, a⟩
  | _, _, j + 1, .cons h z a r, hj => r.get (j := j) (by simpa using hj)
theorem LL.away {q : Addr} {o : HO} : ∀ {qs : List Addr} {xss : List (List D)}, LL K Z H qs xss → q ∉ qs → LL K Z (upd H q o) qs xss
  | _, _, .nil, _ => .nil
  | _, _, .cons h z a r, hn => .cons (by rw [upd_ne (fun e => hn (by rw [e]; exact List.mem_cons_self))]; exact h) z a (r.away fun hm => hn (List.mem_cons_of_mem _ hm))
theorem LL.put {q : Addr} {vs : List V} {xs : List D} (hl : vs.length ≤ sizeLine) (ha : RpAll K Z vs xs) : ∀ {qs : List Addr} {xss : List (List D)} {j : Nat}, LL K Z H qs xss → qs.Nodup → qs[j]? = some q → LL K Z (upd H q (.lst vs)) qs (xss.set j xs)
  | _, _, _, .nil, _, e => by simp at e
  | _, _, 0, .cons h z a r, nd, e => by
    cases e
    exact .cons upd_same hl ha (r.away (List.nodup_cons.mp nd).1)
  | _, _, j + 1, .cons h z a r, nd, e => by
    have e : _ = some q := e
    refine .cons ?_ z a (r.put (j := j) hl ha (List.nodup_cons.mp nd).2 e)
    rw [upd_ne]
    · exact h
    · rintro rfl
      exact (List.nodup_cons.mp nd).1 (List.mem_of_getElem? e)
theorem Rel.pushRow {v : V} {pD : Addr} {ds : List D} {xss : List (List D)} {avs : List V} (r : Rel K Z Y H (σ ++ [some v] ++ [some (.ref pD)]) (s ++ [.l ds] ++ [.ll xss])) (hl : σ.length = s.length) (hD : H pD = some (.lst avs)) (hz : avs.length + 1 ≤ sizeLine) :
    ∃ q, v = .ref q ∧ Rel K Z Y (upd H pD (.lst (avs ++ [.ref q]))) (σ ++ [some (.ref pD)]) (s ++ [.ll (xss ++ [ds])]) := by
  obtain ⟨F, o⟩ := r.own
  have a1 := o.at_ σ.length
  rw [List.append_assoc, List.append_assoc, getD_app_ge (l := σ) (Nat.le_refl _), getD_app_ge (l := s) (by omega), Nat.sub_self, hl, Nat.sub_self] at a1
  obtain ⟨q, vs, e1, e2, e3, e4, e5⟩ := a1
  have ev : v = .ref q := by
    have e1 : (some v : Option V) = some (.ref q) := e1
    cases e1; rfl
  subst ev
  have a2 := o.at_ (σ.length + 1)
  rw [getD_app_ge (by rw [List.length_append]; exact Nat.le_refl _), getD_app_ge (by rw [List.length_append, hl]; exact Nat.le_refl _), List.length_append, List.length_append, hl] at a2
  have z0 : s.length + 1 - (s.length + [SV.l ds].length) = 0 := by simp
  have z1 : s.length + 1 - (s.length + [some (V.ref q)].length) = 0 := by simp
  rw [z0, z1] at a2
  obtain ⟨p, qs, f1, f2, f3, f4, f5⟩ := a2
  have ep : p = pD := by
    have f1 : (some (V.ref pD) : Option V) = some (.ref p) := f1
    cases f1; rfl
  subst ep
  have ea : avs = qs.map V.ref := by rw [f3] at hD; cases hD; rfl
  subst ea
  have nd := o.nd (s.length + 1)
  rw [f2] at nd
  have dj : ∀ a, a ∈ F s.length → a ∈ F (s.length + 1) → False := fun a h1 h2 => by have := o.dj _ _ a h1 h2; omega
  have qn : q ∉ p :: qs := fun h => dj q (by rw [e2]; exact List.mem_cons_self) (by rw [f2]; exact h)
  have pf := o.fr (s.length + 1) p (by rw [f2]; exact List.mem_cons_self)
  have pp : ∀ i, i ≠ s.length + 1 → p ∉ F i := fun i hi h => hi (o.dj i _ p h (by rw [f2]; exact List.mem_cons_self))
  refine ⟨q, rfl, fun b x e => ?_, fun b x e => ?_, r.zy, r.yt, by simp [hl], fun i => if i < s.length then F i else if i = s.length then p :: (qs ++ [q]) else [], fun i => ?_, fun i => ?_, fun i j a ha ha' => ?_, fun i a ha => ?_⟩
  · rw [upd_ne (fun z => by rw [z, pf.1] at e; cases e)]; exact r.zh b x e
  · rw [upd_ne (fun z => by rw [z, pf.2] at e; cases e)]; exact r.yh b x e
  · by_cases hi : i < s.length
    · rw [if_pos hi, getD_app_lt (by omega), getD_app_lt hi]
      have q0 := o.at_ i
      rw [List.append_assoc, List.append_assoc, getD_app_lt (by omega), getD_app_lt hi] at q0
      refine q0.mono (Same.refl _) fun a ha ob e => ?_
      rw [upd_ne (fun z => pp i (by omega) (by rw [← z]; exact ha))]
      exact e
    · rw [if_neg hi]
      by_cases hi2 : i = s.length
      · subst hi2
        rw [if_pos rfl, getD_app_ge (by omega), getD_app_ge (Nat.le_refl _), hl, Nat.sub_self]
        refine ⟨p, qs ++ [q], rfl, rfl, ?_, ?_, ?_⟩
        · rw [List.map_append]; exact upd_same
        · rw [List.length_append]
          rw [List.length_map] at hz
          exact hz
        · have l1 := f5.away (q := p) (o := .lst (qs.map V.ref ++ [.ref q])) (List.nodup_cons.mp nd).1
          refine l1.snoc ?_ e4 e5
          rw [upd_ne (fun z => qn (by rw [z]; exact List.mem_cons_self))]
          exact e3
      · rw [if_neg hi2, getD_out (l := s ++ [SV.ll (xss ++ [ds])]) (by simp; omega)]
        exact rfl
  · by_cases hi : i < s.length
    · rw [if_pos hi]; exact o.nd i
    · rw [if_neg hi]
      by_cases hi2 : i = s.length
      · rw [if_pos hi2, ← List.cons_append]
        exact List.nodup_append.mpr ⟨nd, by simp, fun a ha b hb => by
          obtain rfl := List.mem_singleton.mp hb
          exact fun e => qn (by rw [← e]; exact ha)⟩
      · rw [if_neg hi2]; exact .nil
  · have both : ∀ i, a ∈ (if i < s.length then F i else if i = s.length then p :: (qs ++ [q]) else []) → (i < s.length ∧ a ∈ F i) ∨ (i = s.length ∧ (a ∈ F s.length ∨ a ∈ F (s.length + 1))) := fun i h => by
      by_cases hi : i < s.length
      · rw [if_pos hi] at h; exact .inl ⟨hi, h⟩
      · rw [if_neg hi] at h
        by_cases hi2 : i = s.length
        · rw [if_pos hi2, ← List.cons_append] at h
          refine .inr ⟨hi2, ?_⟩
          rcases List.mem_append.mp h with h | h
          · exact .inr (by rw [f2]; exact h)
          · exact .inl (by rw [e2]; exact h)
        · rw [if_neg hi2] at h; cases h
    rcases both i ha with ⟨h1, h2⟩ | ⟨h1, h2 | h2⟩ <;> rcases both j ha' with ⟨h3, h4⟩ | ⟨h3, h4 | h4⟩
    · exact o.dj _ _ a h2 h4
    · have := o.dj _ _ a h2 h4; omega
    · have := o.dj _ _ a h2 h4; omega
    · have := o.dj _ _ a h2 h4; omega
    · omega
    · omega
    · have := o.dj _ _ a h2 h4; omega
    · omega
    · omega
  · by_cases hi : i < s.length
    · rw [if_pos hi] at ha; exact o.fr i a ha
    · rw [if_neg hi] at ha
      by_cases hi2 : i = s.length
      · rw [if_pos hi2, ← List.cons_append] at ha
        rcases List.mem_append.mp ha with ha | ha
        · exact o.fr _ a (by rw [f2]; exact ha)
        · exact o.fr s.length a (by rw [e2]; exact ha)
      · rw [if_neg hi2] at ha; cases ha
/-- an item of a row written -/
theorem Rel.writeLL (r : Rel K Z Y H σ s) {i : Nat} {xss : List (List D)} {k1 : Nat} (hs : s.getD i .no = .ll xss) (hk : k1 < xss.length) :
    ∃ (p : Addr) (qs : List Addr) (q : Addr) (vs : List V), σ.getD i none = some (.ref p) ∧ H p = some (.lst (qs.map V.ref)) ∧ qs.length = xss.length ∧ qs[k1]? = some q ∧ H q = some (.lst vs) ∧ vs.length ≤ sizeLine ∧ RpAll K Z vs (xss.getD k1 []) ∧
      ∀ vs' xs', vs'.length ≤ sizeLine → RpAll K Z vs' xs' → Rel K Z Y (upd H q (.lst vs')) σ (s.set i (.ll (xss.set k1 xs'))) := by
  obtain ⟨F, o⟩ := r.own
  have a1 := o.at_ i
  rw [hs] at a1
  obtain ⟨p, qs, f1, f2, f3, f4, f5⟩ := a1
  obtain ⟨q, vs, g1, g2, g3, g4⟩ := f5.get hk
  have hi : i < s.length := by
    by_cases h : i < s.length
    · exact h
    · rw [getD_out (by omega)] at hs; cases hs
  have nd := o.nd i
  rw [f2] at nd
  have qm : q ∈ F i := by rw [f2]; exact List.mem_cons_of_mem _ (List.mem_of_getElem? g1)
  have pf := o.fr i q qm
  refine ⟨p, qs, q, vs, f1, f3, f5.len, g1, g2, g3, g4, fun vs' xs' hl ha => ⟨fun b x e => ?_, fun b x e => ?_, r.zy, r.yt, by rw [List.length_set]; exact r.len, F, fun j => ?_, o.nd, o.dj, o.fr⟩⟩
  · rw [upd_ne (fun z => by rw [z, pf.1] at e; cases e)]; exact r.zh b x e
  · rw [upd_ne (fun z => by rw [z, pf.2] at e; cases e)]; exact r.yh b x e
  · by_cases hj : i = j
    · subst hj
      rw [getD_set_self hi, f1, f2]
      refine ⟨p, qs, rfl, rfl, ?_, f4, f5.put hl ha (List.nodup_cons.mp nd).2 g1⟩
      rw [upd_ne (fun z => (List.nodup_cons.mp nd).1 (by rw [z]; exact List.mem_of_getElem? g1))]
      exact f3
    · rw [getD_set_ne hj]
      refine (o.at_ j).mono (Same.refl _) fun b hb ob e => ?_
      rw [upd_ne]
      · exact e
      · rintro rfl
        exact hj (o.dj i j b qm hb)
end
section
variable {X : Cx} {L : Lv} {e a b c : Expr} {es : List Expr} {fa fb fc : FE} {ft fu : FT} {fr : FA} {pos p : Pos} {ws : List Nat}
theorem fLcL_ok {fi : FI} {fg : FG} {vs : List Nat} {σ : St} {H : Hp} {Q : VK} (hv : ∀ j ∈ vs, j ∉ L.io) (h : liftE X L (fLcL fi fg vs ft fa) σ H Q) :
    tLc (liftI X L fi) (liftG X L.in0 vs fg) (liftT X L.in0 ft) (liftE X L.in0 fa) vs σ H Q := by
  obtain ⟨Z, Y, s, Xf, Qf, r, k, xo, h, q⟩ := h
  refine ⟨Z, Y, s, Xf, _, r, k, xo, h, fun J H1 Z1 s1 xs hz rl wk ⟨hsz, hcomp⟩ => fun D hD => ?_⟩
  have kw : L.keeps (wipe σ vs) := ⟨by rw [wipe_length]; exact k.1, fun j hj => by
    rw [wipe_get, if_neg (fun z => hv j z hj)]
    exact k.2 j hj⟩
  refine ⟨fun i m H' => ∃ Z' s' acc avs, Same Z1 Z' ∧ Rel X.K Z' Y H' (wipe σ vs ++ [some (.ref D)]) (s' ++ [.ll acc]) ∧ s'.length = σ.length ∧ (∀ j ∈ vs, s'.getD j .no = .no) ∧ H' D = some (.lst avs) ∧ avs.length ≤ i ∧ m = xs.length - i ∧ i ≤ xs.length ∧ fCompL (fun _ _ => False) fg vs ft fa Qf (xs.drop i) acc s',
    ⟨xs.length, Z1, wipeS s1 vs, [], [], Same.refl _, Rel.wipe2 (rl.newLL0 hD) rl.len vs, by rw [wipeS_len]; exact rl.len.symm, fun j hj => by rw [wipeS_get, if_pos hj], upd_same, Nat.le_refl _, rfl, Nat.zero_le _, hcomp⟩, ?_⟩
  rintro i m H' ⟨Z', s', acc, avs, hz', r', hl', hno, hDl, hal, rfl, hle, hl⟩
  have hl'' : (wipe σ vs).length = s'.length := by rw [wipe_length, hl']
  by_cases hlt : i < xs.length
  · refine .inr ⟨wk.go i H' (hz'.trans r'.zh) hlt, fun H2 => ∃ Z2 s2 acc2 avs2, Same Z' Z2 ∧ Rel X.K Z2 Y H2 (wipe σ vs ++ [some (.ref D)]) (s2 ++ [.ll acc2]) ∧ s2.length = σ.length ∧ (∀ j ∈ vs, s2.getD j .no = .no) ∧ H2 D = some (.lst avs2) ∧ avs2.length ≤ i + 1 ∧ fCompL (fun _ _ => False) fg vs ft fa Qf (xs.drop (i + 1)) acc2 s2,
      fun H2 ⟨Z2, s2, acc2, avs2, hz2, r2, l2, n2, d2, al2, h2⟩ => ⟨xs.length - (i + 1), by omega, Z2, s2, acc2, avs2, hz'.trans hz2, r2, l2, n2, d2, al2, rfl, hlt, h2⟩, fun x H2 hy => ?_⟩
    obtain ⟨d, Z2, hd, n⟩ := wk.yld i H' x H2 Z' hz' r'.zh hlt hy
    have ed : xs.drop i = d :: xs.drop (i + 1) := by
      obtain ⟨h1, h2⟩ := List.getElem?_eq_some_iff.mp hd
      rw [List.drop_eq_getElem_cons hlt, h2]
    rw [ed] at hl
    have r2 : Rel X.K Z2 Y H2 (wipe σ vs ++ [some (.ref D)]) (s' ++ [.ll acc]) := r'.grow n.hh n.hz n.zh n.old
    have hD2 : H2 D = some (.lst avs) := n.hh _ _ hDl
    obtain ⟨Y', hy', rl2, back, held⟩ := r2.frame hl''
    have yD : Y' D = some (.lst avs) := by
      obtain ⟨F, p', v', e1, e2, e3, _⟩ := held 0
      cases e1
      exact e3.trans ((rl2.yh _ _ e3).symm.trans hD2)
    have bk : ∀ Z1 H1 σ1 s1, Same Z2 Z1 → Rel X.K Z1 Y' H1 σ1 s1 → Rel X.K Z1 Y H1 σ1 s1 := fun Z1 H1 σ1 s1 hz q => (back Z1 H1 σ1 s1 hz q).take q.len
    refine ⟨Z2, Y', s', d, _, rl2, kw, n.val, hl, fun σ3 s3 k3 o3 r3 h3 => ⟨(wipe_only o3).trans (wipe_only wipe_wipe), ?_⟩⟩
    refine ⟨Z2, Y', s3, fun _ _ => False, _, r3, k3, XOk.none, h3, fun b H3 Z3 s4 hz3 r4 h4 => ?_⟩
    have e34 : wipe σ3 vs = wipe σ vs := (wipe_only o3).trans (wipe_only wipe_wipe)
    cases b with
    | false =>
      have h4 : fCompL (fun _ _ => False) fg vs ft fa Qf (xs.drop (i + 1)) acc (Hs.wipeS s4 vs) := h4
      have b4 := back Z3 H3 _ _ hz3 r4
      have w4 := b4.wipe2 r4.len vs
      rw [e34] at w4
      exact ⟨Z3, Hs.wipeS s4 vs, acc, avs, n.hz.trans hz3, w4, by rw [wipeS_len, ← r4.len, o3.1, wipe_length], fun j hj => by rw [wipeS_get, if_pos hj], r4.yh _ _ yD, Nat.le_succ_of_le hal, h4⟩
    | true =>
      have h4 : fa (fun _ _ => False) s4 fun r s3 => rowOf r fun ds => fCompL (fun _ _ => False) fg vs ft fa Qf (xs.drop (i + 1)) (acc ++ [ds]) (Hs.wipeS s3 vs) := h4
      refine ⟨Z3, Y', s4, fun _ _ => False, _, r4, k3, XOk.none, h4, fun y H5 Z5 r5 s5 hz5 rx5 h5 => ?_⟩
      have hD5 : H5 D = some (.lst avs) := rx5.rel0.yh _ _ yD
      obtain ⟨ds, rfl, h6⟩ := rowOf_ok h5
      have b6 := back Z5 H5 _ _ (hz3.trans hz5) rx5.rel
      obtain ⟨q, w6⟩ := Rel.pushRow b6 rx5.l1 hD5 (Nat.succ_le_of_lt (Nat.lt_of_le_of_lt hal (Nat.lt_of_lt_of_le hlt hsz)))
      obtain ⟨rfl, w6⟩ := w6
      refine ⟨avs, hD5, Nat.lt_of_le_of_lt hal (Nat.lt_of_lt_of_le hlt hsz), Z5, Hs.wipeS s5 vs, acc ++ [ds], avs ++ [.ref q], (n.hz.trans hz3).trans hz5, ?_, by rw [wipeS_len, ← rx5.l1, o3.1, wipe_length], fun j hj => by rw [wipeS_get, if_pos hj], upd_same, by rw [List.length_append]; exact Nat.succ_le_succ hal, h6⟩
      have w7 := Rel.wipe2 w6 rx5.l1 vs
      rw [e34] at w7
      exact w7
  · have ei : i = xs.length := by omega
    subst ei
    rw [List.drop_length] at hl
    have r9 : Rel X.K Z' Y H' (σ ++ [some (.ref D)]) (s' ++ [.ll acc]) := Rel.unwipe r' (vs := vs) ⟨(wipe_length σ vs).symm, fun j hj => (wipe_wipe.2 j hj).symm⟩ hl'' hno
    exact .inl ⟨wk.stop _ H' (hz'.trans r'.zh) (Nat.le_refl _), q _ H' Z' _ s' (hz.trans hz') (.own hl'.symm r9) hl⟩
theorem pfs_setLcL {i : Nat} {y : Str} {py : Pos} {elt tg iter : Expr} {ifs : List Expr} {scope : Scope} {own : List (Str × Nat)} {spos : Pos} {fi : FI} {fg : FG} (hc : X.calm = true) (hN : X.N.Nodup)
    (hsw : swapsWith (.ListComp elt [⟨tg, iter, ifs, 0⟩] scope pos) (some (.Name y py)) spos.line X.env = pure true) (hi : PFI X L tg iter fi) (ok : BlkOk X.N X.env.scope scope own)
    (hg : ∀ (s : Shared) (H : Hp) (C : Addr) (cl : List (Str × Addr)) (fp : List Addr), PFG (X.blk s H scope (compEnvC scope cl C X.env) fp) L.in0 (own.map fun p : Str × Nat => p.2) tg fg) (ht : ∀ (s : Shared) (H : Hp) (C : Addr) (cl : List (Str × Addr)) (fp : List Addr), PFTs (X.blk s H scope (compEnvC scope cl C X.env) fp) L.in0 ifs ft)
    (he : ∀ (s : Shared) (H : Hp) (C : Addr) (cl : List (Str × Addr)) (fp : List Addr), PF (X.blk s H scope (compEnvC scope cl C X.env) fp) L.in0 elt fa) (hy : X.N[i]? = some y := by rfl) (hyl : X.env.scope.names.lookup y = some .local := by rfl) (hio : i ∉ L.io := by exact of_decide_eq_true rfl)
    (hv : ∀ j ∈ (own.map fun p : Str × Nat => p.2), j ∉ L.io := by exact of_decide_eq_true rfl) (hs : ∀ x, foldedSetIterable iter X.env x = pure x := by intro _; rfl) :
    PFS X L (.Assign [.Name y py] (.ListComp elt [⟨tg, iter, ifs, 0⟩] scope pos) spos) (fAsg i (fLcL fi fg (own.map fun p : Str × Nat => p.2) ft fa)) :=
  PS_imp (ps_setLc (own := own) (wi := liftI X L fi) (g := liftG X L.in0 (own.map fun p : Str × Nat => p.2) fg) (tt := liftT X L.in0 ft) (te := liftE X L.in0 fa) hc hN hy hyl hsw hi ok hg (fun s H C cl fp => (ht s H C cl fp).h) he hs) fun D σ H ⟨Z, Y, s, Ef, r, k, h, eo⟩ => by
  refine fLcL_ok (Q := fun x H1 => gName i x σ H1 D.nx) hv ⟨Z, Y, s, Ef.xx, _, r, k, eo.xx, h, fun v H1 Z1 r1 s1 hz rx h1 => ?_⟩
  obtain ⟨Z2, s2, hz2, rl2, h2⟩ := putR_ok rx h1
  exact eo.nx _ H1 Z2 s2 (hz.trans hz2) (L.keeps_set k hio) rl2 h2
variable {y ya yb : Str} {px pa pb : Pos}
theorem pfs_setLL (i ia ib : Nat) {p1 p2 : Pos} (he : PF X L e fa) (ho : PE X (.Name y px) (tVar i)) (hja : PE X (.Name ya pa) (tVar ia)) (hjb : PE X (.Name yb pb) (tVar ib))
    (ha : ∀ v, assign (.Subscript (.Subscript (.Name y px) (.Name ya pa) p1) (.Name yb pb) p2) X.env v = (do
      let ov ← holding [v] (eval (.Subscript (.Name y px) (.Name ya pa) p1) X.env)
      let iv ← holding [v, ov] (eval (.Name yb pb) X.env)
      standAt p2
      holding [v, ov, iv] (setItem ov iv v)
      release [v, ov, iv] []) := by intro _; rfl)
    (hs : swapsWithSole [.Subscript (.Subscript (.Name y px) (.Name ya pa) p1) (.Name yb pb) p2] e pos.line X.env = pure false := by rfl) (hw : swappedStores [.Subscript (.Subscript (.Name y px) (.Name ya pa) p1) (.Name yb pb) p2] e X.env = pure none := by rfl)
    (h1 : (assignEach [.Subscript (.Subscript (.Name y px) (.Name ya pa) p1) (.Name yb pb) p2] X.env).map (·.2) = [assign (.Subscript (.Subscript (.Name y px) (.Name ya pa) p1) (.Name yb pb) p2) X.env] := by rfl)
    (hpl : PlainIx (.Name ya pa) := by exact fun _ _ => rfl) :
    PFS X L (.Assign [.Subscript (.Subscript (.Name y px) (.Name ya pa) p1) (.Name yb pb) p2] e pos) (fSetLL i ia ib fa) :=
  PS_imp (ps_asg he (pg_sub (pe_ix ix_list ho hja hpl) hjb set_list ha) hs hw h1) fun D σ H ⟨Z, Y, s, Ef, r, k, h, eo⟩ => by
  refine ⟨Z, Y, s, Ef.xx, _, r, k, eo.xx, h, fun v H1 Z1 r1 s1 hz rx h1 => ?_⟩
  obtain ⟨Z2, d, s2, hz2, rx2, xss, k1, k2, e0, e1, e2, l1, l2, l3, l4, h2⟩ := frz_ok (us := []) (ds := []) (vs := []) (rs := []) rx rfl h1
  obtain ⟨p, qs, q, vs, w1, w2, w3, w4, w5, w6, w7, wr⟩ := rx2.rel0.writeLL e0 l2
  obtain ⟨F1, s1'⟩ := rx2.rel0.slot ia
  rw [e1] at s1'
  obtain ⟨_, u1, v1, rp1⟩ := s1'
  cases rp1
  obtain ⟨F2, s2'⟩ := rx2.rel0.slot ib
  rw [e2] at s2'
  obtain ⟨_, u2, v2, rp2⟩ := s2'
  cases rp2
  have wl := w7.length
  have w := wr (vs.set k2.toNat v) ((xss.getD k1.toNat []).set k2.toNat d) (by rw [List.length_set]; exact w6) (w7.set rx2.vd _)
  refine ⟨.ref p, getD_some w1, .int k1, getD_some v1, p, qs.map V.ref, k1, .ref q, rfl, rfl, .inl (.inl w2), ?_, .int k2, getD_some v2, q, vs, k2, k2.toNat, rfl, rfl, w5, ?_, eo.nx σ _ Z2 _ (hz.trans hz2) k w h2⟩
  · obtain ⟨j, rfl⟩ := Int.eq_ofNat_of_zero_le l1
    rw [Int.toNat_natCast] at w4
    exact atI_nat (by rw [List.getElem?_map, w4]; rfl)
  · unfold ixN
    rw [if_pos l3, if_pos (by omega)]
end
theorem st_setLL {i ia ib : Nat} {a : FE} {E : FEnds} {s : S} (h : a E.xx s fun r s1 => frz r s1 fun d s2 => ∃ xss k1 k2, s2.getD i .no = .ll xss ∧ s2.getD ia .no = .d (.int k1) ∧ s2.getD ib .no = .d (.int k2) ∧ 0 ≤ k1 ∧ k1.toNat < xss.length ∧ 0 ≤ k2 ∧ k2.toNat < (xss.getD k1.toNat []).length ∧
  E.nx (s2.set i (.ll (xss.set k1.toNat ((xss.getD k1.toNat []).set k2.toNat d))))) : fSetLL i ia ib a E s := h
theorem compL_list {α : Type} {X : XF} {fg : FG} {wp : List Nat} {e : FE} {Q : R → S → Prop} {s : S} (g : α → D) (f : α → List D) (l : List α) (hs : ∀ a, a ∈ l → ∀ (kT : List D → S → Prop), kT (f a) s → fg (g a) s fun s1 => e X s1 fun r s3 => rowOf r fun ds => kT ds (wipeS s3 wp)) (h : Q (.own (.ll (l.map f))) s) :
    fCompL X fg wp fYes e Q (l.map g) [] s := by
  have go : ∀ (l : List α) (acc : List (List D)), (∀ a, a ∈ l → ∀ (kT : List D → S → Prop), kT (f a) s → fg (g a) s fun s1 => e X s1 fun r s3 => rowOf r fun ds => kT ds (wipeS s3 wp)) → Q (.own (.ll (acc ++ l.map f))) s → fCompL X fg wp fYes e Q (l.map g) acc s := by
    intro l
    induction l with
    | nil =>
      intro acc _ h
      rw [List.map_nil, List.append_nil] at h
      exact h
    | cons a l ih =>
      intro acc hs h
      rw [List.map_cons]
      show fg (g a) s fun s1 => e X s1 fun r s3 => rowOf r fun ds => fCompL X fg wp fYes e Q (l.map g) (acc ++ [ds]) (wipeS s3 wp)
      refine hs a List.mem_cons_self (fun ds s4 => fCompL X fg wp fYes e Q (l.map g) (acc ++ [ds]) s4) ?_
      refine ih _ (fun b hb => hs b (List.mem_cons_of_mem _ hb)) ?_
      rw [List.append_assoc]
      exact h
  exact go l [] hs h
end Hs
namespace Hs
open PySem
theorem st_rowOf {ds : List D} {k : List D → Prop} (h : k ds) : rowOf (.own (.l ds)) k := h
end Hs
namespace L2
open PySem PySem.Spec PyProof.Rows
end L2
namespace Hs
open PySem PySem.Spec PyProof.Rows L2
section
variable {K : PySem.W.Frag} {Z H : Hp} {v : V} {c : Str}
theorem RpV.exc (r : RpV K Z H v (.dict [(.none, .str c)])) (e : Same Z H) : ∃ a : Addr, v = .ref a ∧ H a = some (ExV (He.ga K c) a) := by
  rcases r with r | ⟨p, vs, xs', rfl, e2, h, z, a⟩ | ⟨p, kvs, rfl, e2, h⟩
  · generalize e0 : (PyData.dict [(.none, .str c)]) = d at r
    cases r with
    | lit h z =>
      unfold litD at e0
      injection e0 with e1
      injection e1 with e2 _
      injection e2 with _ e3
      cases e3
    | tf h c d z =>
      unfold tfD at e0
      injection e0 with e1
      injection e1 with e2 _
      injection e2 with _ e3
      cases e3
    | exc h =>
      unfold excD at e0
      injection e0 with e1
      injection e1 with e2 _
      injection e2 with _ e3
      injection e3 with e4
      subst e4
      exact ⟨_, rfl, e _ _ h⟩
    | dcK h a => cases e0; exact a.nolit.elim
    | dcT h a => cases e0
    | obj h1 h2 a => cases e0
    | _ => cases e0
  · cases e2
  · cases e2
    rcases h with ⟨ks, e1, r⟩ | ⟨ks, kvs', e0, e1, r⟩
    · exact r.nolit.elim
    · cases e0
end
end Hs
namespace Hs
open PySem PySem.Spec PyProof.Rows L2
end Hs
namespace Hs
open PySem PySem.Spec PyProof.Rows L2
def fEmD : FE := fun _ s Q => Q (.own (.dc [])) s
theorem pf_emD {X : Cx} {L : Lv} {pos : Pos} : PF X L (.Dict [] [] pos) fEmD := PE_imp pe_dnewK fun σ H Q ⟨Z, Y, s, Xf, Qf, r, k, xo, h, q⟩ p hp =>
  q _ _ Z (.own (.dc [])) s (Same.refl _) (.own r.len (r.newDc hp (.inl ⟨[], upd_same, .nil⟩))) h
theorem st_emD {X : XF} {s : S} {Q : R → S → Prop} (h : Q (.own (.dc [])) s) : fEmD X s Q := h
end Hs
namespace Hs
open PySem PySem.Spec PyProof.Rows L2
end Hs
namespace Hs
open PySem PySem.Spec PyProof.Rows L2
def keyN : D → Option Key
  | .int i => some (.inl i)
  | .str x => some (.inr x)
  | _ => none
def keysN : List D → Option (List Key)
  | [] => some []
  | d :: r => match keyN d, keysN r with
    | some k, some ks => some (k :: ks)
    | _, _ => none
theorem keyN_keyD (k : Key) : keyN (keyD k) = some k := by cases k <;> rfl
theorem keysN_map : ∀ ks : List Key, keysN (ks.map keyD) = some ks
  | [] => rfl
  | k :: ks => by rw [List.map_cons, keysN, keyN_keyD, keysN_map ks]
theorem keyN_eq {d : D} {k : Key} (h : keyN d = some k) : d = keyD k := by
  cases d <;> simp only [keyN] at h <;> cases h <;> rfl
theorem keysN_eq : ∀ {ds : List D} {ks : List Key}, keysN ds = some ks → ds = ks.map keyD
  | [], ks, h => by cases h; rfl
  | d :: r, ks, h => by
    unfold keysN at h
    cases e : keyN d with
    | none => rw [e] at h; cases h
    | some k =>
      cases e2 : keysN r with
      | none => rw [e, e2] at h; cases h
      | some l =>
        rw [e, e2] at h
        cases h
        rw [keyN_eq e, keysN_eq e2]; rfl
def sameN (d : D) (k : Key) : Bool := decide (keyN d = some k)
def sameT (d : D) (k : List Key) : Bool := match d with
  | .tuple ds => decide (keysN ds = some k)
  | _ => false
theorem sameN_keyD (j k : Key) : sameN (keyD j) k = decide (j = k) := by
  unfold sameN
  rw [keyN_keyD]
  by_cases h : j = k
  · subst h; simp
  · rw [decide_eq_false h, decide_eq_false (fun e => h (Option.some.inj e))]
theorem sameT_keysD (j k : List Key) : sameT (keysD j) k = decide (j = k) := by
  unfold sameT keysD
  dsimp only
  rw [keysN_map]
  by_cases h : j = k
  · subst h; simp
  · rw [decide_eq_false h, decide_eq_false (fun e => h (Option.some.inj e))]
/-- what a dict holds -/
def dGet (kvs : List (D × D)) (k : D) (Q : Option D → Prop) : Prop := match kvs with
  | (.none, .none) :: r => match k with
    | .tuple ds => match keysN ds with
      | some ks => Q ((r.find? fun p => sameT p.1 ks).map (·.2))
      | none => False
    | _ => False
  | (.none, _) :: _ => False
  | kvs => match keyN k with
    | some k' => Q ((kvs.find? fun p => sameN p.1 k').map (·.2))
    | none => False
def putN (kvs : List (D × D)) (k : Key) (x : D) : List (D × D) :=
  if (kvs.any fun p => sameN p.1 k) = true then kvs.map (fun p => if sameN p.1 k = true then (p.1, x) else p) else kvs ++ [(keyD k, x)]
def putT (kvs : List (D × D)) (k : List Key) (x : D) : List (D × D) :=
  if (kvs.any fun p => sameT p.1 k) = true then kvs.map (fun p => if sameT p.1 k = true then (p.1, x) else p) else kvs ++ [(keysD k, x)]
def dPut (kvs : List (D × D)) (k x : D) (Q : List (D × D) → Prop) : Prop := match kvs with
  | (.none, .none) :: r => match k with
    | .tuple ds => match keysN ds with
      | some ks => r.length < sizeLine ∧ Q ((.none, .none) :: putT r ks x)
      | none => False
    | _ => False
  | (.none, _) :: _ => False
  | kvs => match keyN k with
    | some k' => kvs.length < sizeLine ∧ Q (putN kvs k' x)
    | none => False
section
variable {K : PySem.W.Frag} {Z H : Hp}
def OptR (K : PySem.W.Frag) (H : Hp) (v : Option V) (d : Option D) : Prop := match v, d with
  | none, none => True
  | some v, some d => Rp K H v d
  | _, _ => False
theorem RpK.get (k : Key) : ∀ {ks : List (Key × V)} {kvs : List (D × D)}, RpK K H ks kvs → OptR K H (valV ks k) ((kvs.find? fun p => sameN p.1 k).map (·.2))
  | _, _, .nil => True.intro
  | _, _, .cons (k := j) (ks := ks) h r => by
    rw [List.find?_cons]
    dsimp only
    rw [sameN_keyD]
    by_cases e : j = k
    · rw [decide_eq_true e, valV_pos (p := (j, _)) e]
      exact h
    · rw [decide_eq_false e, valV_neg (p := (j, _)) e]
      exact RpK.get k r
theorem RpT.get (k : List Key) : ∀ {ks : List (List Key × V)} {kvs : List (D × D)}, RpT K H ks kvs → OptR K H (valV ks k) ((kvs.find? fun p => sameT p.1 k).map (·.2))
  | _, _, .nil => True.intro
  | _, _, .cons (k := j) (ks := ks) h r => by
    rw [List.find?_cons]
    dsimp only
    rw [sameT_keysD]
    by_cases e : j = k
    · rw [decide_eq_true e, valV_pos (p := (j, _)) e]
      exact h
    · rw [decide_eq_false e, valV_neg (p := (j, _)) e]
      exact RpT.get k r
theorem RpK.any (k : Key) : ∀ {ks : List (Key × V)} {kvs : List (D × D)}, RpK K H ks kvs → (ks.any fun kv => decide (kv.1 = k)) = kvs.any fun p => sameN p.1 k
  | _, _, .nil => rfl
  | _, _, .cons (k := j) h r => by rw [List.any_cons, List.any_cons, RpK.any k r, sameN_keyD]
theorem RpT.any (k : List Key) : ∀ {ks : List (List Key × V)} {kvs : List (D × D)}, RpT K H ks kvs → (ks.any fun kv => decide (kv.1 = k)) = kvs.any fun p => sameT p.1 k
  | _, _, .nil => rfl
  | _, _, .cons (k := j) h r => by rw [List.any_cons, List.any_cons, RpT.any k r, sameT_keysD]
theorem RpK.repl (k : Key) {v : V} {x : D} (rv : Rp K H v x) : ∀ {ks : List (Key × V)} {kvs : List (D × D)}, RpK K H ks kvs → RpK K H (ks.map fun kv => if kv.1 = k then (kv.1, v) else kv) (kvs.map fun p => if sameN p.1 k = true then (p.1, x) else p)
  | _, _, .nil => .nil
  | _, _, .cons (k := j) h r => by
    rw [List.map_cons, List.map_cons]
    dsimp only
    rw [sameN_keyD]
    by_cases e : j = k
    · rw [if_pos e, if_pos (decide_eq_true e)]
      exact .cons rv (RpK.repl k rv r)
    · rw [if_neg e, if_neg (by simpa using e)]
      exact .cons h (RpK.repl k rv r)
theorem RpT.repl (k : List Key) {v : V} {x : D} (rv : Rp K H v x) : ∀ {ks : List (List Key × V)} {kvs : List (D × D)}, RpT K H ks kvs → RpT K H (ks.map fun kv => if kv.1 = k then (kv.1, v) else kv) (kvs.map fun p => if sameT p.1 k = true then (p.1, x) else p)
  | _, _, .nil => .nil
  | _, _, .cons (k := j) h r => by
    rw [List.map_cons, List.map_cons]
    dsimp only
    rw [sameT_keysD]
    by_cases e : j = k
    · rw [if_pos e, if_pos (decide_eq_true e)]
      exact .cons rv (RpT.repl k rv r)
    · rw [if_neg e, if_neg (by simpa using e)]
      exact .cons h (RpT.repl k rv r)
theorem RpK.snoc {k : Key} {v : V} {x : D} (rv : Rp K H v x) : ∀ {ks : List (Key × V)} {kvs : List (D × D)}, RpK K H ks kvs → RpK K H (ks ++ [(k, v)]) (kvs ++ [(keyD k, x)])
  | _, _, .nil => .cons rv .nil
  | _, _, .cons h r => .cons h (RpK.snoc rv r)
theorem RpT.snoc {k : List Key} {v : V} {x : D} (rv : Rp K H v x) : ∀ {ks : List (List Key × V)} {kvs : List (D × D)}, RpT K H ks kvs → RpT K H (ks ++ [(k, v)]) (kvs ++ [(keysD k, x)])
  | _, _, .nil => .cons rv .nil
  | _, _, .cons h r => .cons h (RpT.snoc rv r)
theorem RpK.put (k : Key) {v : V} {x : D} (rv : Rp K H v x) {ks : List (Key × V)} {kvs : List (D × D)} (r : RpK K H ks kvs) : RpK K H (putK ks k v) (putN kvs k x) := by
  unfold putK putN
  rw [r.any k]
  split
  · exact r.repl k rv
  · exact r.snoc rv
theorem RpT.put (k : List Key) {v : V} {x : D} (rv : Rp K H v x) {ks : List (List Key × V)} {kvs : List (D × D)} (r : RpT K H ks kvs) : RpT K H (putK ks k v) (putT kvs k x) := by
  unfold putK putT
  rw [r.any k]
  split
  · exact r.repl k rv
  · exact r.snoc rv
theorem RpK.length : ∀ {ks : List (Key × V)} {kvs : List (D × D)}, RpK K H ks kvs → ks.length = kvs.length
  | _, _, .nil => rfl
  | _, _, .cons _ r => congrArg (· + 1) (RpK.length r)
theorem RpT.length : ∀ {ks : List (List Key × V)} {kvs : List (D × D)}, RpT K H ks kvs → ks.length = kvs.length
  | _, _, .nil => rfl
  | _, _, .cons _ r => congrArg (· + 1) (RpT.length r)
theorem RpK.mark {ks : List (Key × V)} {x : D} {r : List (D × D)} (h : RpK K H ks ((.none, x) :: r)) : False := h.nolit
/-- a dict that is looked at -/
theorem RpV.dict {v : V} {kvs : List (D × D)} (r : RpV K Z H v (.dict kvs)) (e : Same Z H) : (∃ p ks, v = .ref p ∧ Rd H p (.dK ks) ∧ RpK K Z ks kvs) ∨ (∃ p ks kvs', v = .ref p ∧ kvs = (.none, .none) :: kvs' ∧ H p = some (.dT ks) ∧ RpT K Z ks kvs') ∨ ∃ x r, kvs = (.none, x) :: r ∧ x ≠ .none := by
  rcases r with r | ⟨p, vs, xs', rfl, e2, h, z, a⟩ | ⟨p, kvs', rfl, e2, h⟩
  · generalize e0 : (PyData.dict kvs) = d at r
    cases r with
    | dcK h a => cases e0; exact .inl ⟨_, _, rfl, same_rd e h, a⟩
    | dcT h a => cases e0; exact .inr (.inl ⟨_, _, _, rfl, rfl, e _ _ h, a⟩)
    | lit h z => cases e0; exact .inr (.inr ⟨_, _, rfl, fun z => nomatch z⟩)
    | exc h => cases e0; exact .inr (.inr ⟨_, _, rfl, fun z => nomatch z⟩)
    | tf h c d z => cases e0; exact .inr (.inr ⟨_, _, rfl, fun z => nomatch z⟩)
    | obj h1 h2 a => cases e0; exact .inr (.inr ⟨_, _, rfl, fun z => nomatch z⟩)
    | _ => cases e0
  · cases e2
  · cases e2
    rcases h with ⟨ks, e1, r⟩ | ⟨ks, kvs', e0, e1, r⟩
    · exact .inl ⟨_, _, rfl, .inl e1, r⟩
    · exact .inr (.inl ⟨_, _, _, rfl, e0, e1, r⟩)
theorem RpV.key {v : V} {k : Key} (r : RpV K Z H v (keyD k)) : v = kV k := by
  cases k with
  | inl i => exact RpV.int r
  | inr x => exact RpV.str r
theorem RpAll.keys : ∀ {vs : List V} {ks : List Key}, RpAll K Z vs (ks.map keyD) → vs = ks.map kV
  | _, [], .nil => rfl
  | _, k :: ks, .cons h a => by
    rw [RpAll.keys a, RpV.key (H := Z) (.inl h)]; rfl
theorem RpV.keys {v : V} {ks : List Key} (r : RpV K Z H v (.tuple (ks.map keyD))) (e : Same Z H) : ∃ b, v = .ref b ∧ H b = some (.tup (ks.map kV)) := by
  have r := fop_add.RpV.tupZ r
  cases r with
  | tup h z a =>
    rw [a.keys] at h
    exact ⟨_, rfl, e _ _ h⟩
/-- what a dict holds, looked up -/
theorem dGet_ok {x y : V} {kvs : List (D × D)} {k : D} {Q : Option D → Prop} (e : Same Z H) (hx : RpV K Z H x (.dict kvs)) (hy : RpV K Z H y k) (h : dGet kvs k Q) : ∃ a o d, x = .ref a ∧ DGet H a y o ∧ OptR K Z o d ∧ Q d := by
  unfold dGet at h
  rcases hx.dict e with ⟨p, ks, rfl, hp, r⟩ | ⟨p, ks, kvs', rfl, rfl, hp, r⟩ | ⟨x0, r, rfl, hxn⟩
  · split at h
    · exact r.mark.elim
    · exact r.mark.elim
    · split at h
      · rename_i k' ek
        rw [keyN_eq ek] at hy
        exact ⟨p, _, _, rfl, .inl ⟨ks, k', hp, hy.key, rfl⟩, r.get k', h⟩
      · exact h.elim
  · dsimp only at h
    split at h
    · split at h
      · rename_i ds ks' ek
        rw [keysN_eq ek] at hy
        obtain ⟨b, rfl, hb⟩ := hy.keys e
        exact ⟨p, _, _, rfl, .inr ⟨ks, ks', b, .inl hp, rfl, hb, rfl⟩, r.get ks', h⟩
      · exact h.elim
    · exact h.elim
  · split at h
    · rename_i e1
      cases e1
      exact (hxn rfl).elim
    · exact h.elim
    · rename_i h1 h2
      exact (h2 _ _ rfl).elim
end
theorem OptR.isSome {K : PySem.W.Frag} {H : Hp} {o : Option V} {d : Option D} (r : OptR K H o d) : o.isSome = d.isSome := by
  cases o <;> cases d <;> first | rfl | exact r.elim
theorem _root_.L2.Room.u1 {k : Nat} {A : Around} (r : Room k A) : A.units + 1 < cLine := by have := r.un; omega
section
variable {X : Cx} {L : Lv} {e a b c : Expr} {es : List Expr} {fa fb fc fj fx : FE} {ft : FT} {fr : FA} {pos p : Pos}
/-- d[k], xs[k] -/
def ixD2 : V2 := fun d e Q => ixD d e Q ∨ ∃ kvs, d = .dict kvs ∧ dGet kvs e fun o => ∃ x, o = some x ∧ Q (.d x)
theorem fix_d2 (hu : X.A.units + 1 < cLine) : IxR X (rF2 X.K ixD2) := by
  intro value slice pins s σ H x y v u Q I rx ry ⟨Z, d, e, Qf, hz, hd, he, g, q⟩ hpl
  rcases g with g | ⟨kvs, rfl, g⟩
  · exact fix_d value slice pins s σ H x y v u Q I rx ry ⟨Z, d, e, Qf, hz, hd, he, g, q⟩ hpl
  · obtain ⟨a, o, d, rfl, dg, ro, z, rfl, g⟩ := dGet_ok hz hd he g
    cases o with
    | none => exact ro.elim
    | some w =>
      obtain rfl : v = Value.ref a := rx
      exact tail_any (dict_typeIs I dg) PySem.F.slot_dict_getitem.lookup (d_getItem hu I dg ry fun w' s' I' rw' => ⟨w, H, I', rw', q w H Z _ (.d hz ro) g⟩) hpl
/-- k in d, k in xs -/
def cInK : V2 := fun d e Q => cIn d e Q ∨ ∃ kvs, e = .dict kvs ∧ dGet kvs d fun o => Q (.d (.bool o.isSome))
def cNotInK : V2 := fun d e Q => cNotIn d e Q ∨ ∃ kvs, e = .dict kvs ∧ dGet kvs d fun o => Q (.d (.bool (!o.isSome)))
theorem fop_inK (hu : X.A.units + 65 < cLine) : OpR X (compareOp .In) (rF2 X.K cInK) := by
  intro pins s σ H x y v u Q I rx ry ⟨Z, d, e, Qf, hz, hd, he, g, q⟩
  rcases g with g | ⟨kvs, rfl, g⟩
  · exact fop_in hu pins s σ H x y v u Q I rx ry ⟨Z, d, e, Qf, hz, hd, he, g, q⟩
  · obtain ⟨a, o, d, rfl, dg, ro, g⟩ := dGet_ok hz he hd g
    obtain rfl : u = Value.ref a := ry
    exact d_in (by omega) I dg rx fun s' I' => ⟨.bl o.isSome, H, I', rfl, by rw [ro.isSome]; exact q _ H Z _ (.d hz (.bl _)) g⟩
theorem fop_notInK (hu : X.A.units + 65 < cLine) : OpR X (compareOp .NotIn) (rF2 X.K cNotInK) := by
  intro pins s σ H x y v u Q I rx ry ⟨Z, d, e, Qf, hz, hd, he, g, q⟩
  rcases g with g | ⟨kvs, rfl, g⟩
  · exact fop_notIn hu pins s σ H x y v u Q I rx ry ⟨Z, d, e, Qf, hz, hd, he, g, q⟩
  · obtain ⟨a, o, d, rfl, dg, ro, g⟩ := dGet_ok hz he hd g
    obtain rfl : u = Value.ref a := ry
    exact d_notIn (by omega) I dg rx fun s' I' => ⟨.bl (!o.isSome), H, I', rfl, by rw [ro.isSome]; exact q _ H Z _ (.d hz (.bl _)) g⟩
def onDc (i : Nat) (s : S) (k : List (D × D) → Prop) : Prop := match s.getD i .no with
  | .dc kvs => k kvs
  | _ => False
theorem onDc_ok {i : Nat} {s : S} {k : List (D × D) → Prop} (h : onDc i s k) : ∃ kvs, s.getD i .no = .dc kvs ∧ k kvs := by
  unfold onDc at h
  generalize s.getD i .no = w at h
  cases w with
  | dc kvs => exact ⟨kvs, rfl, h⟩
  | _ => exact h.elim
theorem Rel.slotDc {K : PySem.W.Frag} {Z Y H : Hp} {σ : St} {s : S} (r : Rel K Z Y H σ s) {i : Nat} {kvs : List (D × D)} (e : s.getD i .no = .dc kvs) : ∃ p, σ.getD i none = some (.ref p) ∧ DcAt K Z H p kvs := by
  obtain ⟨F, q⟩ := r.slot i
  rw [e] at q
  obtain ⟨p, h1, _, h3⟩ := q
  exact ⟨p, h1, h3⟩
theorem dPut_ok {K : PySem.W.Frag} {Z H : Hp} {p : Addr} {kvs : List (D × D)} {y v : V} {k x : D} {Q : List (D × D) → Prop} (e : Same Z H) (hd : DcAt K Z H p kvs) (hy : RpV K Z H y k) (rv : Rp K Z v x) (h : dPut kvs k x Q) :
    ∃ ob kvs', DPut H p y v (upd H p ob) ∧ DcAt K Z (upd H p ob) p kvs' ∧ Q kvs' := by
  unfold dPut at h
  rcases hd with ⟨ks, hp, r⟩ | ⟨ks, kvs', rfl, hp, r⟩
  · split at h
    · exact r.mark.elim
    · exact r.mark.elim
    · split at h
      · rename_i k' ek
        rw [keyN_eq ek] at hy
        refine ⟨_, _, .inl ⟨ks, k', hp, hy.key, by rw [r.length]; exact h.1, rfl⟩, .inl ⟨_, upd_same, r.put k' rv⟩, h.2⟩
      · exact h.elim
  · dsimp only at h
    split at h
    · split at h
      · rename_i ds ks' ek
        rw [keysN_eq ek] at hy
        obtain ⟨b, rfl, hb⟩ := hy.keys e
        exact ⟨_, _, .inr ⟨ks, ks', b, hp, rfl, hb, by rw [r.length]; exact h.1, rfl⟩, .inr ⟨_, _, rfl, upd_same, r.put ks' rv⟩, h.2⟩
      · exact h.elim
    · exact h.elim
/-- d[k] = x -/
def fSetD (i : Nat) (j a : FE) : FS := fun E s => a E.xx s fun r s1 => onDc i s1 fun _ => j E.xx s1 fun rj s2 => frzAll [r, rj] s2 fun ds s3 => match ds with
  | [d, k] => onDc i s3 fun kvs => dPut kvs k d fun kvs' => E.nx (s3.set i (.dc kvs'))
  | _ => False
variable {y : Str} {px : Pos}
theorem pfs_setD (i : Nat) {po : Pos} {j : Expr} (hu : X.A.units + 1 < cLine) (he : PF X L e fa) (ho : PE X (.Name y px) (tVar i)) (hj : PF X L j fj)
    (hs : swapsWith e (some (.Subscript (.Name y px) j po)) pos.line X.env = pure false := by rfl) : PFS X L (.Assign [.Subscript (.Name y px) j po] e pos) (fSetD i fj fa) :=
  PS_imp (ps_dput hu ho hj he hs) fun D σ H ⟨Z, Y, s, Ef, r, k, h, eo⟩ => by
  refine ⟨Z, Y, s, Ef.xx, _, r, k, eo.xx, h, fun v H1 Z1 r1 s1 hz rx h1 => ?_⟩
  obtain ⟨kvs0, e0, h1⟩ := onDc_ok h1
  obtain ⟨q, hv, _⟩ := rx.rel0.slotDc e0
  obtain ⟨Y', hy, rl, bk, fw⟩ := rx.frame
  refine ⟨.ref q, getD_some hv, Z1, Y', s1, Ef.xx, _, rl, k, (eo.xx.z hz).mono (Same.refl _) bk, h1, fun w H2 Z2 rj s2 hz2 rx2 h2 => ?_⟩
  have rx3 := fw Z2 H2 s2 [w] [rj] hz2 rx2
  obtain ⟨Z3, ds, s3, hz3, rx4, h3⟩ := frzAll_ok (us := []) (ds := []) rx3 rfl h2
  have ra := rx4.rps
  split at h3
  · obtain ⟨kvs, e2, h4⟩ := onDc_ok h3
    obtain ⟨q', hv', hd⟩ := rx4.rel0.slotDc e2
    rw [hv] at hv'
    cases hv'
    cases ra with
    | cons rd ra =>
      cases ra with
      | cons rk _ =>
        obtain ⟨ob, kvs', dp, dc, h5⟩ := dPut_ok rx4.rel0.zh hd (.inl rk) rd h4
        exact ⟨q, _, rfl, dp, eo.nx σ _ Z3 _ ((hz.trans hz2).trans hz3) k (rx4.rel0.writeDc e2 hv dc) h5⟩
  · exact h3.elim
/-- d.get(k, x) -/
def fDGet2 (i : Nat) (j x : FE) : FE := fun X s Q => onDc i s fun _ => j X s fun rj s1 => x X s1 fun rx s2 => frzAll [rj, rx] s2 fun ds s3 => match ds with
  | [k, d] => onDc i s3 fun kvs => dGet kvs k fun o => Q (.d (o.getD d)) s3
  | _ => False
theorem NewR.dc {K : PySem.W.Frag} {Z H : Hp} {p : Addr} {o : HO} {kvs : List (D × D)} (e : Same Z H) (hp : H p = none) (h : DcAt K Z (upd H p o) p kvs) : NewR K Z H Z (upd H p o) (.ref p) (.own (.dc kvs)) :=
  ⟨same_upd hp, Same.refl _, e.trans (same_upd hp), fun _ _ => rfl, [p], ⟨p, rfl, rfl, h⟩, by simp, fun a ha => by
    obtain rfl : a = p := by simpa using ha
    exact ⟨hp, e.free hp⟩⟩
def downD (hi : Int) (n : Nat) : List D := (List.range n).map fun (k : Nat) => PyData.int (hi - (k : Int))
theorem downD_len {hi : Int} {n : Nat} : (downD hi n).length = n := by unfold downD; rw [List.length_map, List.length_range]
theorem downD_get {hi : Int} {n i : Nat} (h : i < n) : (downD hi n)[i]? = some (.int (hi - (i : Int))) := by
  unfold downD
  rw [List.getElem?_map, List.getElem?_range h]; rfl
theorem walks_down {K : PySem.W.Frag} {Z : Hp} {hi : Int} {n : Nat} : Walks K Z (Itc hi (-1) n) (downD hi n) where
  stop := fun i H e h => by rw [downD_len] at h; exact h
  go := fun i H e h => by rw [downD_len] at h; exact h
  yld := fun i H v H' Zc e1 e2 h ⟨eh, hv⟩ => by
    subst eh hv
    rw [downD_len] at h
    exact ⟨_, Zc, downD_get h, .d e2 (by rw [show hi + (i : Int) * (-1) = hi - (i : Int) by omega]; exact .int _)⟩
def iRange3 (a : FA) : FI := fun X s Q => a X s fun rs s2 => match rs with
  | [.d (.int i), .d (.int j), .d (.int c)] => c = -1 ∧ lim62 i ∧ lim62 j ∧ Q (downD i (i - j).toNat) s2
  | _ => False
theorem pfi_range3 {tg : Expr} (hg : Gl X "range") (hm : X.mg "range" = none) (ha : PFA X L [a, b, c] fr) (hs : starEach [a, b, c] X.env = (false, eval a X.env) :: starEach [b, c] X.env := by rfl) (hpl : (backTo pos (starEach [b, c] X.env)).any (·.1) = false := by rfl) :
    PFI X L tg (.Call (.Name "range" p) [a, b, c] [] pos) (iRange3 fr) := PI_imp (pi_range3 hg hm ha hs hpl) fun σ H R ⟨Z, Y, s, Xf, Qf, r, k, xo, h, q⟩ => by
  refine ⟨Z, Y, s, Xf, _, r, k, xo, h, fun vs H1 Z1 rs s1 hz rx hn h1 => ?_⟩
  split at h1
  · rename_i i j cc
    obtain ⟨rfl, hi, hj, h2⟩ := h1
    have rv := RelX.rps (ds := [.int i, .int j, .int (-1)]) rx
    cases rv with
    | cons r1 r2 =>
      cases r2 with
      | cons r2 r3 =>
        cases r3 with
        | cons r3 r4 =>
          cases r1; cases r2; cases r3; cases r4
          exact ⟨i, j, -1, _, rfl, RgC.neg hi.1 hi.2 hj.1 hj.2, q _ H1 Z1 s1 _ hz rx.rel0 walks_down h2⟩
  · exact h1.elim
def fEmT : FE := fun _ s Q => Q (.own (.dc [(.none, .none)])) s
end
end Hs
namespace Hs
open PySem PySem.Spec PyProof.Rows L2
section
variable {K : PySem.W.Frag} {Z Z' Y Y' H H' : Hp} {σ σ' : St} {s s' : S}
/-- what stood aside, in a slot of its own -/
theorem Rel.claim (r : Rel K Z Y' H σ s) {v : Option V} {w : SV} {G : List Addr} (hy : Same Y Y') (nd : G.Nodup) (h1 : ∀ a ∈ G, Y' a ≠ none) (h2 : ∀ a ∈ G, Y a = none) (h : SlotAt K Z H v w G) : Rel K Z Y H (σ ++ [v]) (s ++ [w]) := by
  obtain ⟨F, o⟩ := r.own
  have hl := r.len
  have hd : ∀ i, ∀ a ∈ G, a ∉ F i := fun i a ha hg => h1 a ha (o.fr i a hg).2
  refine ⟨r.zh, hy.trans r.yh, fun a ha => ?_, fun a vs e => r.yt a vs (hy a _ e), by simp [hl], fun i => if i = σ.length then G else F i, fun i => ?_, fun i => ?_, fun i j a ha ha' => ?_, fun i a ha => ?_⟩
  · cases e : Y a with
    | none => rfl
    | some q =>
      have := r.zy a ha
      rw [hy a q e] at this
      cases this
  · by_cases hi : i = σ.length
    · rw [if_pos hi, getD_app_ge (by omega), getD_app_ge (by omega), hi, Nat.sub_self, ← hl, Nat.sub_self]
      exact h
    · rw [if_neg hi]
      have q := o.at_ i
      by_cases hlt : i < σ.length
      · rw [getD_app_lt hlt, getD_app_lt (by omega)]
        exact q
      · rw [getD_out (l := s ++ [w]) (by rw [List.length_append]; show s.length + 1 ≤ i; omega)]
        rw [getD_out (l := s) (by omega)] at q
        exact q
  · by_cases hi : i = σ.length
    · rw [if_pos hi]; exact nd
    · rw [if_neg hi]; exact o.nd i
  · by_cases hi : i = σ.length
    · rw [if_pos hi] at ha
      by_cases hj : j = σ.length
      · rw [hi, hj]
      · rw [if_neg hj] at ha'; exact (hd j a ha ha').elim
    · rw [if_neg hi] at ha
      by_cases hj : j = σ.length
      · rw [if_pos hj] at ha'; exact (hd i a ha' ha).elim
      · rw [if_neg hj] at ha'; exact o.dj i j a ha ha'
  · by_cases hi : i = σ.length
    · rw [if_pos hi] at ha
      refine ⟨?_, h2 a ha⟩
      cases e : Z a with
      | none => rfl
      | some q => exact absurd (r.zy a (by rw [e]; exact fun z => nomatch z)) (h1 a ha)
    · rw [if_neg hi] at ha
      refine ⟨(o.fr i a ha).1, ?_⟩
      cases e : Y a with
      | none => rfl
      | some q =>
        have := (o.fr i a ha).2
        rw [hy a q e] at this
        cases this
/-- a new thing, put aside -/
theorem Rel.newY (r : Rel K Z Y H σ s) {p : Addr} (o : HO) (ho : ∀ vs, o ≠ .tup vs) (h : H p = none) : Rel K Z (upd Y p o) (upd H p o) σ s := by
  obtain ⟨F, q⟩ := r.own
  refine ⟨r.zh.trans (same_upd h), fun a x e => ?_, fun a ha => ?_, fun a vs => ?_, r.len, F, fun i => (q.at_ i).mono (Same.refl _) fun a _ ob e => same_upd h a ob e, q.nd, q.dj, fun i a ha => ⟨(q.fr i a ha).1, ?_⟩⟩
  · by_cases hp : a = p
    · subst hp; rw [upd_same] at e ⊢; exact e
    · rw [upd_ne hp] at e ⊢; exact r.yh a x e
  · rw [upd_ne (fun e => by rw [e, r.zh.free h] at ha; exact ha rfl)]
    exact r.zy a ha
  · by_cases hp : a = p
    · subst hp; rw [upd_same]; exact fun e => ho vs (Option.some.inj e)
    · rw [upd_ne hp]; exact r.yt a vs
  · rw [upd_ne (fun e => (q.at_ i).there a ha (by rw [e]; exact h))]
    exact (q.fr i a ha).2
theorem Rel.lessY (r : Rel K Z Y' H σ s) (hy : Same Y Y') : Rel K Z Y H σ s := by
  obtain ⟨F, q⟩ := r.own
  have no : ∀ a, Y' a = none → Y a = none := fun a h => by
    cases e : Y a with
    | none => rfl
    | some o => rw [hy a o e] at h; cases h
  exact ⟨r.zh, hy.trans r.yh, fun a ha => no a (r.zy a ha), fun a vs e => r.yt a vs (hy a _ e), r.len, F, q.at_, q.nd, q.dj, fun i a ha => ⟨(q.fr i a ha).1, no a (q.fr i a ha).2⟩⟩
theorem DcAt.notup {p : Addr} {kvs : List (D × D)} (h : DcAt K Z H p kvs) (vs : List V) : H p ≠ some (.tup vs) := by
  rcases h with ⟨ks, e1, r⟩ | ⟨ks, kvs', e0, e1, r⟩ <;> (rw [e1]; exact fun z => nomatch z)
theorem PartAt.notup {v : V} {w : PV} {F : List Addr} (h : PartAt K Z H v w F) (us : List V) : ∀ a ∈ F, H a ≠ some (.tup us) := fun a ha => h.nt a ha us
theorem TpAt.notup {vs : List V} {ws : List PV} {F : List Addr} (h : TpAt K Z H vs ws F) (us : List V) : ∀ a ∈ F, H a ≠ some (.tup us) := by
  induction h with
  | nil => intro a ha; cases ha
  | cons h r ih =>
    intro a ha
    rcases List.mem_append.mp ha with ha | ha
    · exact h.notup us a ha
    · exact ih a ha
theorem SlotAt.notup {v : Option V} {sv : SV} {F : List Addr} (h : SlotAt K Z H v sv F) (us : List V) : ∀ a ∈ F, H a ≠ some (.tup us) := by
  have LLt : ∀ {qs : List Addr} {xss : List (List D)}, LL K Z H qs xss → ∀ a ∈ qs, H a ≠ some (.tup us) := by
    intro qs xss r
    induction r with
    | nil => intro a ha; cases ha
    | cons h z a r ih =>
      intro b hb
      rcases List.mem_cons.mp hb with rfl | hb
      · rw [h]; exact fun z => nomatch z
      · exact ih b hb
  intro a ha
  cases sv with
  | no => rw [show F = [] from h] at ha; cases ha
  | d x => rw [h.1] at ha; cases ha
  | l xs =>
    obtain ⟨p, vs, h1, h2, h3, h4, h5⟩ := h
    rw [h2] at ha
    obtain rfl : a = p := by simpa using ha
    rw [h3]; exact fun z => nomatch z
  | ll xss =>
    obtain ⟨p, qs, h1, h2, h3, h4, h5⟩ := h
    rw [h2] at ha
    rcases List.mem_cons.mp ha with rfl | ha
    · rw [h3]; exact fun z => nomatch z
    · exact LLt h5 a ha
  | dc kvs =>
    obtain ⟨p, h1, h2, h3⟩ := h
    rw [h2] at ha
    obtain rfl : a = p := by simpa using ha
    exact h3.notup us
  | ob c fs =>
    obtain ⟨p, dx, vs, G, h1, h2, h3, h4, h5⟩ := h
    rw [h2] at ha
    rcases List.mem_cons.mp ha with rfl | ha
    · rw [h3]; exact fun z => nomatch z
    · rcases List.mem_cons.mp ha with rfl | ha
      · rw [h4]; exact fun z => nomatch z
      · exact h5.notup us a ha
  | tp ws =>
    obtain ⟨p, vs, h1, h3, h4, h5⟩ := h
    exact h5.notup us a ha
  | lo ws =>
    obtain ⟨p, vs, G, h1, h2, h3, h4, h5⟩ := h
    rw [h2] at ha
    rcases List.mem_cons.mp ha with rfl | ha
    · rw [h3]; exact fun z => nomatch z
    · exact h5.notup us a ha
def frz1 (w : SV) : SV := match asD w with
  | some x => .d x
  | none => .no
def frzS (s : S) : S := s.map frz1
/-- values without lists and dicts -/
def flatD : D → Bool
  | .none | .bool _ | .int _ | .str _ => true
  | .tuple ds => flatL ds
  | _ => false
where flatL : List D → Bool
  | [] => true
  | d :: ds => flatD d && flatL ds
/-- what comes and holds nothing of what was looked at -/
def flatR (r : R) (k : Prop) : Prop := match r with
  | .d x => flatD x = true ∧ k
  | .own (.l xs) => flatD.flatL xs = true ∧ k
  | _ => False
/-- an expression that only looks at what the slots hold -/
def fBor (e : FE) : FE := fun _ s Q => e (fun _ _ => False) (frzS s) fun r _ => flatR r (Q r s)
def fBorT (t : FT) : FT := fun _ s Q => t (fun _ _ => False) (frzS s) fun b _ => Q b s
/-- behind it -/
theorem Rel.free (r : Rel K Z Y H σ s) {F : Nat → List Addr} {Z1 Z2 : Hp} (o : OwnF K Z Y H σ s F) (hz1 : Same Z Z1) (h1 : ∀ i, ∀ a ∈ F i, Z1 a = H a) (hz2 : Same Z1 Z2) (zh : Same Z2 H') (yh : Same Y H') (zy : ∀ a, Z2 a ≠ none → Y a = none) :
    ∃ Z3, Same Z Z3 ∧ Same Z3 Z2 ∧ (∀ a vs, Z2 a = some (.tup vs) → Z3 a = some (.tup vs)) ∧ OwnF K Z3 Y H' σ s F ∧ (∀ i, ∀ a ∈ F i, Z2 a ≠ none) ∧ (∀ i, ∀ a ∈ F i, Z3 a = none) ∧ Rel K Z3 Y H' σ s := by
  classical
  let Z3 : Hp := fun a => if ∃ i, a ∈ F i then none else Z2 a
  have s3 : Same Z3 Z2 := fun a q e => by
    have e : (if ∃ i, a ∈ F i then none else Z2 a) = some q := e
    split at e
    · cases e
    · exact e
  have in2 : ∀ i, ∀ a ∈ F i, ∀ ob, H a = some ob → Z2 a = some ob := fun i a ha ob e => hz2 a ob ((h1 i a ha).trans e)
  have s03 : Same Z Z3 := fun a q e => by
    show (if _ then _ else _) = _
    rw [if_neg (fun ⟨i, h⟩ => by rw [(o.fr i a h).1] at e; cases e)]
    exact hz2 a q (hz1 a q e)
  have n3 : ∀ i, ∀ a ∈ F i, Z3 a = none := fun i a ha => if_pos ⟨i, ha⟩
  have oo : OwnF K Z3 Y H' σ s F := ⟨fun i => (o.at_ i).mono s03 fun a ha ob e => zh a ob (in2 i a ha ob e), o.nd, o.dj, fun i a ha => ⟨n3 i a ha, (o.fr i a ha).2⟩⟩
  refine ⟨Z3, s03, s3, fun a vs e => ?_, oo, fun i a ha => ?_, n3, s3.trans zh, yh, fun a ha => ?_, r.yt, r.len, F, oo⟩
  · show (if _ then _ else _) = _
    rw [if_neg]
    · exact e
    · rintro ⟨i, hi⟩
      cases eh : H a with
      | none => exact (o.at_ i).there a hi eh
      | some ob =>
        have := in2 i a hi ob eh
        rw [e] at this
        cases this
        exact (o.at_ i).notup vs a hi eh
  · cases eh : H a with
    | none => exact ((o.at_ i).there a ha eh).elim
    | some ob => rw [in2 i a ha ob eh]; exact fun z => nomatch z
  · cases e : Z3 a with
    | none => exact (ha e).elim
    | some q => exact zy a (by rw [s3 a q e]; exact fun z => nomatch z)
end
section
variable {X : Cx} {L : Lv} {e a b c : Expr} {es : List Expr} {fa fb fc fj fx : FE} {ft : FT} {fr : FA} {pos p : Pos}
def fDisp1 (k v : FE) : FE := fun X s Q => k X s fun rk s1 => v X s1 fun rv s2 => frzAll [rk, rv] s2 fun ds s3 => match ds with
  | [kd, d] => match keyN kd with
    | some k' => Q (.own (.dc [(keyD k', d)])) s3
    | none => False
  | _ => False
theorem pf_disp1 {k v : Expr} (hk : PF X L k fa) (hv : PF X L v fb) : PF X L (.Dict [some k] [v] pos) (fDisp1 fa fb) := PE_imp (pe_disp (pps_cons hk hv pps_nil) rfl rfl (by simp) (by show 1 ≤ 15; decide)) fun σ H Q ⟨Z, Y, s, Xf, Qf, r, k, xo, h, q⟩ => by
  intro p hp
  have yp : Y p = none := r.yh.free hp
  have hyy : Same Y (upd Y p (.dK [])) := same_upd yp
  refine ⟨Z, upd Y p (.dK []), s, Xf, _, r.newY _ (fun _ z => nomatch z) hp, k, xo.mono (Same.refl _) fun _ _ _ _ _ q => q.lessY hyy, h, fun x H1 Z1 rk s1 hz rx h1 => ?_⟩
  obtain ⟨Y', hy, rl, bk, fw⟩ := rx.frame
  refine ⟨Z1, Y', s1, Xf, _, rl, k, ((xo.mono (Same.refl _) fun _ _ _ _ _ q => q.lessY hyy).z hz).mono (Same.refl _) bk, h1, fun y H2 Z2 rv s2 hz2 rx2 h2 => ?_⟩
  have rx3 := fw Z2 H2 s2 [y] [rv] hz2 rx2
  obtain ⟨Z3, ds, s3, hz3, rx4, h3⟩ := frzAll_ok (us := []) (ds := []) rx3 rfl h2
  have ra := rx4.rps
  have e2 : H2 p = some (.dK []) := rx4.rel0.yh p _ upd_same
  refine ⟨e2, ?_⟩
  split at h3
  · cases ra with
    | cons rk ra =>
      cases ra with
      | cons rd _ =>
        split at h3
        · rename_i k' ek
          rw [keyN_eq ek] at rk
          have ek : x = kV k' := (RpV.key (H := H2) (.inl rk))
          refine ⟨[(k', y)], by rw [ek]; rfl, by show 1 ≤ 15; decide, ?_⟩
          have c := rx4.rel0.claim (v := some (.ref p)) (w := .dc []) (G := [p]) hyy (by simp) (fun a ha => ?_) (fun a ha => ?_) ⟨p, rfl, rfl, .inl ⟨[], e2, .nil⟩⟩
          · have hl := rx4.l1
            have w := c.writeDc (i := σ.length) (p := p) (ob := .dK (mergeK [] [(k', y)])) (kvs := []) (kvs' := [(keyD k', _)]) (by rw [getD_app_ge (by omega), hl, Nat.sub_self]; rfl) (by rw [getD_app_ge (Nat.le_refl _), Nat.sub_self]; rfl) (.inl ⟨_, upd_same, .cons rd .nil⟩)
            rw [List.set_append_right _ _ (by omega), hl, Nat.sub_self] at w
            exact q _ _ Z3 _ s3 ((hz.trans hz2).trans hz3) (.own hl w) h3
          · obtain rfl : a = p := by simpa using ha
            rw [upd_same]; exact fun z => nomatch z
          · obtain rfl : a = p := by simpa using ha
            exact yp
        · exact h3.elim
  · exact h3.elim
end
def toPs : List SV → (List PV → Prop) → Prop
  | [], k => k []
  | .d x :: r, k => toPs r fun ws => k (.d x :: ws)
  | .l xs :: r, k => toPs r fun ws => k (.l xs :: ws)
  | .dc kvs :: r, k => toPs r fun ws => k (.dc kvs :: ws)
  | .ob c fs :: r, k => toPs r fun ws => k (.o c fs :: ws)
  | _ :: _, _ => False
def fTupO (a : FA) : FE := fun X s Q => a X s fun rs s1 => bindA (List.replicate rs.length true) rs s1 fun svs s2 => toPs svs fun ws => Q (.own (.tp ws)) s2
section
variable {X : Cx} {L : Lv} {e a b c : Expr} {es : List Expr} {fa fb fc fj fx : FE} {ft : FT} {fr : FA} {pos p : Pos}
def onP (i k : Nat) (s : S) (kk : List PV → List D → Prop) : Prop := match s.getD i .no with
  | .tp ws => match ws[k]? with
    | some (.l xs) => kk ws xs
    | _ => False
  | _ => False
/-- t[k].m(..) -/
def fLmP (i k : Nat) (g : LM) (a : FA) : FE := fun X s Q => onP i k s fun _ _ => a X s fun rs s1 => frzAll rs s1 fun ds s2 => onP i k s2 fun ws xs => g xs ds fun d xs' => Q (.d d) (s2.set i (.tp (ws.set k (.l xs'))))
/-- what stands at the place k of the tuple of a slot -/
def tPart (i k : Nat) (K : PySem.W.Frag) : TE := fun σ H Q => ∃ p vs w, σ.getD i none = some (.ref p) ∧ H p = some (.tup vs) ∧ vs[k]? = some w ∧ Q w H
variable {nm : Str} {apos cpos : Pos} {y : Str} {px p1 p2 : Pos} {j : Nat} {id : String}
end
end Hs
namespace Hs
open PySem
class Get (s : S) (i : Nat) (v : outParam SV) : Prop where e : s.getD i .no = v
class Put (s : S) (i : Nat) (v : SV) (s' : outParam S) : Prop where e : s.set i v = s'
class Pad (s : S) (n : Nat) (s' : outParam S) : Prop where e : s ++ List.replicate n .no = s'
instance getZ {v : SV} {s : S} : Get (v :: s) 0 v := ⟨rfl⟩
instance getS {v w : SV} {s : S} {i : Nat} [h : Get s i v] : Get (w :: s) (i + 1) v := ⟨h.e⟩
instance putZ {v w : SV} {s : S} : Put (w :: s) 0 v (v :: s) := ⟨rfl⟩
instance putS {v w : SV} {s s' : S} {i : Nat} [h : Put s i v s'] : Put (w :: s) (i + 1) v (w :: s') := ⟨by rw [List.set_cons_succ, h.e]⟩
instance padZ : Pad [] 0 [] := ⟨rfl⟩
instance padS {s : S} {n : Nat} [h : Pad [] n s] : Pad [] (n + 1) (.no :: s) := ⟨by rw [← h.e]; rfl⟩
instance padC {v : SV} {s s' : S} {n : Nat} [h : Pad s n s'] : Pad (v :: s) n (v :: s') := ⟨by rw [← h.e]; rfl⟩
section
variable {s' s'' : S}
variable {nx bk ct : S → Prop} {rt : R → S → Prop} {X xx : XF} {s : S} {a b c e : FE} {t u : FT} {f1 f2 : FS} {Q : R → S → Prop} {i j : Nat} {x y : D} {v : SV} {g g' : V2} {r : R} {rs : List R} {A B : Prop}
theorem st_seq (h : f1 ⟨fun s1 => f2 ⟨nx, rt, bk, ct, xx⟩ s1, rt, bk, ct, xx⟩ s) : fSeq f1 f2 ⟨nx, rt, bk, ct, xx⟩ s := h
/-- the ways through the first part meet -/
theorem st_join (P : S → Prop) (hrest : ∀ s', P s' → f2 ⟨nx, rt, bk, ct, xx⟩ s') (h : ∀ k : S → Prop, (∀ s', P s' → k s') → f1 ⟨k, rt, bk, ct, xx⟩ s) : fSeq f1 f2 ⟨nx, rt, bk, ct, xx⟩ s := h _ hrest
theorem st_asg (h : a xx s fun r s1 => putR i r s1 nx) : fAsg i a ⟨nx, rt, bk, ct, xx⟩ s := h
theorem st_next (h : nx s) : fNext ⟨nx, rt, bk, ct, xx⟩ s := h
theorem st_if (h : t xx s fun c s1 => if c = true then f1 ⟨nx, rt, bk, ct, xx⟩ s1 else f2 ⟨nx, rt, bk, ct, xx⟩ s1) : fIfS t f1 f2 ⟨nx, rt, bk, ct, xx⟩ s := h
theorem st_ret (h : a xx s rt) : fRet a ⟨nx, rt, bk, ct, xx⟩ s := h
theorem st_retN (h : rt (.d .none) s) : fRetN ⟨nx, rt, bk, ct, xx⟩ s := h
theorem st_break (h : bk s) : fBreak ⟨nx, rt, bk, ct, xx⟩ s := h
theorem st_drop (h : a xx s fun _ s1 => nx s1) : fDrop a ⟨nx, rt, bk, ct, xx⟩ s := h
theorem st_raise {n : Str} (h : xx n s) : fRaise n ⟨nx, rt, bk, ct, xx⟩ s := h
theorem st_put_d {k : S → Prop} [p : Put s i (.d x) s'] (h : k s') : putR i (.d x) s k := by rw [← p.e] at h; exact h
theorem st_put_own {k : S → Prop} [p : Put s i v s'] (h : k s') : putR i (.own v) s k := by rw [← p.e] at h; exact h
theorem st_put_top {k : S → Prop} (e : asD (s.getD j .no) = some x) (h : k ((s.set j (.d x)).set i (.d x))) : putR i (.top j) s k := by unfold putR; dsimp only; rw [e]; exact h
theorem st_put_top_l {k : S → Prop} {xs : List D} [g : Get s j (.l xs)] [p : Put s j (.d (.list xs)) s'] [p2 : Put s' i (.d (.list xs)) s''] (h : k s'') : putR i (.top j) s k :=
  st_put_top (x := .list xs) (by rw [g.e]; rfl) (by rw [p.e, p2.e]; exact h)
theorem st_put_top_ll {k : S → Prop} {xs : List (List D)} [g : Get s j (.ll xs)] [p : Put s j (.d (.list (xs.map .list))) s'] [p2 : Put s' i (.d (.list (xs.map .list))) s''] (h : k s'') : putR i (.top j) s k :=
  st_put_top (x := .list (xs.map .list)) (by rw [g.e]; rfl) (by rw [p.e, p2.e]; exact h)
theorem st_put_top_dc {k : S → Prop} {xs : List (D × D)} [g : Get s j (.dc xs)] [p : Put s j (.d (.dict xs)) s'] [p2 : Put s' i (.d (.dict xs)) s''] (h : k s'') : putR i (.top j) s k :=
  st_put_top (x := .dict xs) (by rw [g.e]; rfl) (by rw [p.e, p2.e]; exact h)
theorem st_unp {fg : FG} (h : a xx s fun r s1 => frz r s1 fun d s2 => fg d s2 nx) : fUnp fg a ⟨nx, rt, bk, ct, xx⟩ s := h
theorem st_par {fa : FA} (h : fa xx s fun rs s2 => match rs with | [r1, r2] => frz r1 s2 fun d1 s3 => frz r2 s3 fun d2 s4 => putR i (.d d1) s4 fun s5 => putR j (.d d2) s5 nx | _ => False) : fPar i j fa ⟨nx, rt, bk, ct, xx⟩ s := h
theorem st_setIx (h : a xx s fun r s1 => onL i s1 fun _ => b xx s1 fun rj s2 => match rj with
  | .d (.int k) => frz r s2 fun d s3 => onL i s3 fun xs => 0 ≤ k ∧ k.toNat < xs.length ∧ putR i (.own (.l (xs.set k.toNat d))) s3 nx
  | _ => False) : fSetIx i b a ⟨nx, rt, bk, ct, xx⟩ s := h
theorem st_onL {k : List D → Prop} {xs : List D} [e : Get s i (.l xs)] (h : k xs) : onL i s k := by unfold onL; rw [e.e]; exact h
/-- slots forgotten -/
def wipeK (s : S) (wp : List Nat) (k : S → Prop) : Prop := k (wipeS s wp)
theorem st_wipe_nil {k : S → Prop} (h : k s) : wipeK s [] k := h
theorem st_wipe_cons {k : S → Prop} {is : List Nat} [p : Put s i .no s'] (h : wipeK s' is k) : wipeK s (i :: is) k := by rw [← p.e] at h; exact h
theorem st_for {it : FI} {fg : FG} {wp : List Nat} (h : it xx s fun xs s1 => wipeK s1 wp fun s2 => fLoop fg wp f1 ⟨nx, rt, bk, ct, xx⟩ xs s2) : fFor it fg wp f1 ⟨nx, rt, bk, ct, xx⟩ s := h
theorem st_var_d [e : Get s i (.d x)] (h : Q (.d x) s) : fVar i X s Q := by unfold fVar; rw [e.e]; exact h
theorem st_var_l {xs : List D} [e : Get s i (.l xs)] (h : Q (.top i) s) : fVar i X s Q := by unfold fVar; rw [e.e]; exact h
theorem st_var_ll {xs : List (List D)} [e : Get s i (.ll xs)] (h : Q (.top i) s) : fVar i X s Q := by unfold fVar; rw [e.e]; exact h
theorem st_var_dc {xs : List (D × D)} [e : Get s i (.dc xs)] (h : Q (.top i) s) : fVar i X s Q := by unfold fVar; rw [e.e]; exact h
theorem st_C (h : Q (.d x) s) : fC x X s Q := h
theorem st_nil {k : List R → S → Prop} (h : k [] s) : fNil X s k := h
theorem st_cons {k : List R → S → Prop} {fr : FA} (h : a X s fun x s1 => fr X s1 fun xs s2 => k (x :: xs) s2) : fCons a fr X s k := h
theorem st_tup {fr : FA} (h : fr X s fun rs s1 => frzAll rs s1 fun ds s2 => Q (.d (.tuple ds)) s2) : fTup fr X s Q := h
theorem st_lst {fr : FA} (h : fr X s fun rs s1 => frzAll rs s1 fun ds s2 => Q (.own (.l ds)) s2) : fLst fr X s Q := h
theorem st_op (h : a X s fun r1 s1 => b X s1 fun r2 s2 => look s2 r1 fun d => look s2 r2 fun e => g d e fun r => Q r s2) : fOp g a b X s Q := h
theorem st_un {g1 : V1} (h : a X s fun r1 s1 => look s1 r1 fun d => g1 d fun r => Q r s1) : fUn g1 a X s Q := h
theorem st_blt {gn : VN} {fr : FA} (h : fr X s fun rs s1 => fBlt.lookAll s1 rs fun ds => gn ds fun r => Q r s1) : fBlt gn fr X s Q := h
theorem st_lookAll_nil {k : List D → Prop} (h : k []) : fBlt.lookAll s [] k := h
theorem st_lookAll_cons {k : List D → Prop} (h : look s r fun d => fBlt.lookAll s rs fun ds => k (d :: ds)) : fBlt.lookAll s (r :: rs) k := h
theorem st_andV (h : a X s fun r s1 => isB r fun c => if c = true then b X s1 Q else Q (.d (.bool false)) s1) : fAndV a b X s Q := h
theorem st_orV (h : a X s fun r s1 => isB r fun c => if c = true then Q (.d (.bool true)) s1 else b X s1 Q) : fOrV a b X s Q := h
theorem st_notV (h : a X s fun r s1 => isB r fun c => Q (.d (.bool (!c))) s1) : fNotV a X s Q := h
theorem st_ifE (h : t X s fun c s1 => if c = true then a X s1 Q else b X s1 Q) : fIfE t a b X s Q := h
theorem st_chain (h : a X s fun r1 s1 => b X s1 fun r2 s2 => look s2 r1 fun d => look s2 r2 fun e => g d e fun r => isB r fun k =>
  if k = true then c X s2 fun r3 s3 => look s3 r2 fun e' => look s3 r3 fun h => g' e' h fun z => Q z s3 else Q (.d (.bool false)) s2) : fChain g g' a b c X s Q := h
theorem st_sl {gs : D → Option Int → Option Int → (R → Prop) → Prop} {lo hi : FO} (h : a X s fun r s1 => lo X s1 fun l s2 => hi X s2 fun h s3 => look s3 r fun d => gs d l h fun z => Q z s3) : fSl gs a lo hi X s Q := h
theorem st_noPart {k : Option Int → S → Prop} (h : k none s) : fNoPart X s k := h
theorem st_part {k : Option Int → S → Prop} (h : a X s fun r s1 => match r with | .d (.int i) => k (some i) s1 | _ => False) : fPart a X s k := h
/-- what was lent comes back -/
def putK (ms : List Bool) (rs : List R) (fin s : S) (k : S → Prop) : Prop := k (putB ms rs fin s)
theorem st_putK_nil {fin : S} {k : S → Prop} (h : k s) : putK [] [] fin s k := by
  unfold putK putB; exact h
theorem st_putK_t {ms : List Bool} {fin : S} {f : SV} {k : S → Prop} [p : Put s i f s'] (h : putK ms rs fin s' k) : putK (true :: ms) (.top i :: rs) (f :: fin) s k := by
  rw [← p.e] at h; exact h
theorem st_putK_td {ms : List Bool} {fin : S} {f : SV} {k : S → Prop} (h : putK ms rs fin s k) : putK (true :: ms) (.d x :: rs) (f :: fin) s k := h
theorem st_putK_to {ms : List Bool} {fin : S} {f : SV} {k : S → Prop} (h : putK ms rs fin s k) : putK (true :: ms) (.own v :: rs) (f :: fin) s k := h
theorem st_putK_f {ms : List Bool} {fin : S} {f : SV} {k : S → Prop} (h : putK ms rs fin s k) : putK (false :: ms) (r :: rs) (f :: fin) s k := h
theorem st_call {sem : FSem} {ms : List Bool} {fr : FA} (h : fr X s fun rs s1 => bindA ms rs s1 fun svs s2 => sem svs (fun n fin => X n (putB ms rs fin s2)) fun r fin => putK ms rs fin s2 fun s3 => Q r s3) : fCall sem ms fr X s Q := h
theorem putB_none : ∀ {ms : List Bool} {rs : List R} {fin s : S}, ms.all (!·) = true → putB ms rs fin s = s
  | [], _, _, _, _ => by unfold putB; rfl
  | true :: _, _, _, _, h => by simp at h
  | false :: ms, [], _, _, _ => by unfold putB; rfl
  | false :: ms, _ :: _, [], _, _ => by unfold putB; rfl
  | false :: ms, _ :: rs, _ :: fin, s, h => by
    unfold putB
    exact putB_none (by simpa using h)
theorem st_callF {sem : FSem} {ms : List Bool} {fr : FA} (e : ms.all (!·) = true) (h : fr X s fun rs s1 => bindA ms rs s1 fun svs s2 => sem svs (fun n _ => X n s2) fun r _ => Q r s2) : fCall sem ms fr X s Q := by
  have q : ∀ (rs : List R) (s2 : S), (fun n fin => X n (putB ms rs fin s2)) = fun (n : Str) (fin : S) => X n s2 := fun rs s2 => by
    funext n fin; rw [putB_none e]
  have q2 : ∀ (rs : List R) (s2 : S), (fun r fin => Q r (putB ms rs fin s2)) = fun (r : R) (fin : S) => Q r s2 := fun rs s2 => by
    funext n fin; rw [putB_none e]
  unfold fCall
  simp only [q, q2]
  exact h
theorem st_lc {it : FI} {fg : FG} {wp : List Nat} (h : it X s fun xs s1 => xs.length ≤ sizeLine ∧ wipeK s1 wp fun s2 => fComp (fun _ _ => False) fg wp t e Q xs [] s2) : fLc it fg wp t e X s Q := h
theorem st_lm {lm : LM} {fr : FA} (h : onL i s fun _ => fr X s fun rs s1 => frzAll rs s1 fun ds s2 => onL i s2 fun xs => lm xs ds fun d xs' => putR i (.own (.l xs')) s2 fun s3 => Q (.d d) s3) : fLm i lm fr X s Q := h
variable {q : Bool → S → Prop}
theorem st_B (h : a X s fun r s1 => isB r fun c => q c s1) : fB a X s q := h
theorem st_and (h : t X s fun c s1 => if c = true then u X s1 q else q false s1) : fAnd t u X s q := h
theorem st_or (h : t X s fun c s1 => if c = true then q true s1 else u X s1 q) : fOr t u X s q := h
theorem st_not (h : t X s fun c s1 => q (!c) s1) : fNot t X s q := h
theorem st_yes (h : q true s) : fYes X s q := h
theorem st_isB {k : Bool → Prop} {z : Bool} (h : k z) : isB (.d (.bool z)) k := h
theorem st_t (h : A) : if true = true then A else B := by simpa using h
theorem st_f (h : B) : if false = true then A else B := by simpa using h
theorem st_nt (h : B) : if (!true) = true then A else B := by simpa using h
theorem st_nf (h : A) : if (!false) = true then A else B := by simpa using h
theorem st_ite {z : Bool} (h1 : z = true → A) (h2 : z = false → B) : if z = true then A else B := by
  cases z
  · simpa using h2 rfl
  · simpa using h1 rfl
theorem st_iteT {z : Bool} (e : z = true) (h : A) : if z = true then A else B := by rw [if_pos e]; exact h
theorem st_iteF {z : Bool} (e : z = false) (h : B) : if z = true then A else B := by rw [if_neg (by simp [e])]; exact h
theorem st_look_d {k : D → Prop} (h : k x) : look s (.d x) k := h
theorem st_look_own {k : D → Prop} {xs : List D} (h : k (.list xs)) : look s (.own (.l xs)) k := h
theorem st_look_own_dc {k : D → Prop} {xs : List (D × D)} (h : k (.dict xs)) : look s (.own (.dc xs)) k := h
theorem st_look_top {k : D → Prop} {xs : List D} [e : Get s i (.l xs)] (h : k (.list xs)) : look s (.top i) k := by
  unfold look
  rw [show viewR s (.top i) = some (.list xs) by show viewS (s.getD i .no) = _; rw [e.e]; rfl]; exact h
theorem st_look_top_d {k : D → Prop} [e : Get s i (.d x)] (h : k x) : look s (.top i) k := by
  unfold look viewR
  dsimp only
  rw [e.e]
  exact h
theorem st_look_top_dc {k : D → Prop} {xs : List (D × D)} [e : Get s i (.dc xs)] (h : k (.dict xs)) : look s (.top i) k := by
  unfold look
  rw [show viewR s (.top i) = some (.dict xs) by show viewS (s.getD i .no) = _; rw [e.e]; rfl]; exact h
theorem st_frz_d {k : D → S → Prop} (h : k x s) : frz (.d x) s k := h
theorem st_frz_own {k : D → S → Prop} {xs : List D} (h : k (.list xs) s) : frz (.own (.l xs)) s k := h
theorem st_frz_own_ll {k : D → S → Prop} {xs : List (List D)} (h : k (.list (xs.map .list)) s) : frz (.own (.ll xs)) s k := h
theorem st_frz_own_dc {k : D → S → Prop} {xs : List (D × D)} (h : k (.dict xs) s) : frz (.own (.dc xs)) s k := h
theorem frz_top' {k : D → S → Prop} (e : asD (s.getD i .no) = some x) (h : k x (s.set i (.d x))) : frz (.top i) s k := by unfold frz; dsimp only; rw [e]; exact h
theorem st_frz_top {k : D → S → Prop} {xs : List D} [e : Get s i (.l xs)] [p : Put s i (.d (.list xs)) s'] (h : k (.list xs) s') : frz (.top i) s k := frz_top' (x := .list xs) (by rw [e.e]; rfl) (by rw [p.e]; exact h)
theorem st_frz_top_ll {k : D → S → Prop} {xs : List (List D)} [e : Get s i (.ll xs)] [p : Put s i (.d (.list (xs.map .list))) s'] (h : k (.list (xs.map .list)) s') : frz (.top i) s k := frz_top' (x := .list (xs.map .list)) (by rw [e.e]; rfl) (by rw [p.e]; exact h)
theorem st_frz_top_dc {k : D → S → Prop} {xs : List (D × D)} [e : Get s i (.dc xs)] [p : Put s i (.d (.dict xs)) s'] (h : k (.dict xs) s') : frz (.top i) s k := frz_top' (x := .dict xs) (by rw [e.e]; rfl) (by rw [p.e]; exact h)
theorem st_frzAll_nil {k : List D → S → Prop} (h : k [] s) : frzAll [] s k := h
theorem st_frzAll_cons {k : List D → S → Prop} (h : frz r s fun x s1 => frzAll rs s1 fun xs s2 => k (x :: xs) s2) : frzAll (r :: rs) s k := h
variable {ms : List Bool} {kb : List SV → S → Prop}
theorem st_bind_nil (h : kb [] s) : bindA [] [] s kb := h
theorem st_bind_f (h : frz r s fun x s1 => bindA ms rs s1 fun svs s2 => kb (.d x :: svs) s2) : bindA (false :: ms) (r :: rs) s kb := h
theorem st_bind_tt [g : Get s i v] [p : Put s i .no s'] (h : bindA ms rs s' fun svs s2 => kb (v :: svs) s2) : bindA (true :: ms) (.top i :: rs) s kb := by
  rw [← p.e, ← g.e] at h; exact h
theorem st_bind_td (h : bindA ms rs s fun svs s2 => kb (.d x :: svs) s2) : bindA (true :: ms) (.d x :: rs) s kb := h
theorem st_bind_to (h : bindA ms rs s fun svs s2 => kb (v :: svs) s2) : bindA (true :: ms) (.own v :: rs) s kb := h
theorem st_out_d {k : R → S → Prop} (h : k (.d x) s) : outR (.d x) s k := h
theorem st_out_own {k : R → S → Prop} (h : k (.own v) s) : outR (.own v) s k := h
theorem st_out_top {k : R → S → Prop} [g : Get s i v] [p : Put s i .no s'] (h : k (.own v) s') : outR (.top i) s k := by
  rw [← p.e, ← g.e] at h; exact h
variable {kl : List D → S → Prop} {fr : FA} {ds : List D} {n m : Int}
theorem st_seqI (h : a X s fun r s1 => frz r s1 fun d s2 => match d with | .list xs => kl xs s2 | .tuple xs => kl xs s2 | _ => False) : iSeq a X s kl := h
theorem st_range1 (h : fr X s fun rs s1 => match rs with | [.d (.int j)] => lim62 j ∧ kl (rangeD 0 j.toNat) s1 | _ => False) : iRange1 fr X s kl := h
theorem st_range2 (h : fr X s fun rs s2 => match rs with | [.d (.int i), .d (.int j)] => lim62 i ∧ lim62 j ∧ kl (rangeD i (j - i).toNat) s2 | _ => False) : iRange2 fr X s kl := h
theorem st_enum (h : fr X s fun rs s1 => frzAll rs s1 fun ds s2 => match ds with
  | [.list xs] => kl (enumD xs) s2
  | [.tuple xs] => kl (enumD xs) s2
  | _ => False) : iEnum fr X s kl := h
theorem st_zip (h : fr X s fun rs s1 => frzAll rs s1 fun ds s4 => match ds with
  | [.list xs, .list ys] => kl (zipD xs ys) s4
  | [.tuple xs, .list ys] => kl (zipD xs ys) s4
  | [.list xs, .tuple ys] => kl (zipD xs ys) s4
  | [.tuple xs, .tuple ys] => kl (zipD xs ys) s4
  | _ => False) : iZip fr X s kl := h
theorem st_nm {k : S → Prop} [p : Put s i (.d x) s'] (h : k s') : gNm i x s k := by rw [← p.e] at h; exact h
/-- a def's body begins -/
theorem st_sem {np nl n : Nat} {svs : S} {f : FS} (e : nl = n + np) [p : Pad svs n s] (h : f ⟨fun s => Q (.d .none) (s.take np), fun r s => outR r s fun r' s' => Q r' (s'.take np), fun _ => False, fun _ => False, fun n s => X n (s.take np)⟩ s) : semOf np nl f svs X Q := by
  subst e
  rw [← p.e] at h
  unfold semOf
  rw [Nat.add_sub_cancel]
  exact h
theorem st_tp {k : S → Prop} {fgs : List FG} (h : gTp.gTps fgs ds s k) : gTp fgs (.tuple ds) s k := h
theorem st_tps_nil {k : S → Prop} (h : k s) : gTp.gTps [] [] s k := h
theorem st_tps_cons {k : S → Prop} {fg : FG} {fgs : List FG} (h : fg x s fun s1 => gTp.gTps fgs ds s1 k) : gTp.gTps (fg :: fgs) (x :: ds) s k := h
variable {k : R → Prop} {xs ys : List D}
theorem st_add_i (h : k (.d (.int (n + m)))) : opAdd (.int n) (.int m) k := h
theorem st_add_l (z : xs.length + ys.length ≤ sizeLine) (h : k (.own (.l (xs ++ ys)))) : opAdd (.list xs) (.list ys) k := ⟨z, h⟩
theorem st_add_t (z : xs.length + ys.length ≤ sizeLine) (h : k (.d (.tuple (xs ++ ys)))) : opAdd (.tuple xs) (.tuple ys) k := ⟨z, h⟩
theorem st_sub_i (h : k (.d (.int (n - m)))) : opSub (.int n) (.int m) k := h
theorem st_mul_i (z : okM n m) (h : k (.d (.int (n * m)))) : opMul (.int n) (.int m) k := ⟨z, h⟩
theorem st_fdiv_i (z : okD m) (h : k (.d (.int (n / m)))) : opFdiv (.int n) (.int m) k := ⟨z, h⟩
theorem st_mod_i (z : 0 < m) (h : k (.d (.int (n % m)))) : opMod (.int n) (.int m) k := ⟨z, h⟩
instance {j : Int} : Decidable (okD j) := by unfold okD; infer_instance
instance {i j : Int} : Decidable (okM i j) := by unfold okM; infer_instance
instance {i : Int} : Decidable (lim62 i) := by unfold lim62; infer_instance
theorem lg_le {n k : Nat} (h : n < 2 ^ k) : n.log2 ≤ k := by
  by_cases h0 : n = 0
  · subst h0; simp
  · exact Nat.le_of_lt ((Nat.log2_lt h0).mpr h)
/-- a bound of both factors -/
theorem okM_of (p q : Nat) {i j : Int} (h1 : i.natAbs < 2 ^ p) (h2 : j.natAbs < 2 ^ q) (h : p + q < 1000000 := by decide) : okM i j := by
  have := lg_le h1
  have := lg_le h2
  unfold okM
  omega
theorem okD_of (q : Nat) {j : Int} (h0 : 0 < j) (h2 : j.natAbs < 2 ^ q) (h : q < 9000 := by decide) : okD j := ⟨h0, by have := lg_le h2; omega⟩
theorem st_neg_i (h : k (.d (.int (-n)))) : uNeg (.int n) k := h
theorem st_eq_i (h : k (.d (.bool (decide (n = m))))) : cEq (.int n) (.int m) k := .inr ⟨rfl, rfl, h⟩
theorem st_ne_i (h : k (.d (.bool (!decide (n = m))))) : cNe (.int n) (.int m) k := .inr ⟨rfl, rfl, h⟩
theorem st_eq_b {p q : Bool} (h : k (.d (.bool (p == q)))) : cEq (.bool p) (.bool q) k := .inr ⟨rfl, rfl, by cases p <;> cases q <;> exact h⟩
theorem st_ne_b {p q : Bool} (h : k (.d (.bool (!(p == q))))) : cNe (.bool p) (.bool q) k := .inr ⟨rfl, rfl, by cases p <;> cases q <;> exact h⟩
theorem st_eq (z1 : SeqAt.shaped (unlit x) = true) (z2 : SeqAt.shaped (unlit y) = true) (h : k (.d (.bool (PyData.eqv (unlit x) (unlit y))))) : cEq x y k := .inr ⟨z1, z2, h⟩
theorem st_ne (z1 : SeqAt.shaped (unlit x) = true) (z2 : SeqAt.shaped (unlit y) = true) (h : k (.d (.bool (!PyData.eqv (unlit x) (unlit y))))) : cNe x y k := .inr ⟨z1, z2, h⟩
theorem st_eq_str {p q : Str} (h : k (.d (.bool (decide (p = q))))) : cEq (.str p) (.str q) k := .inl ⟨p, q, rfl, rfl, h⟩
theorem st_ne_str {p q : Str} (h : k (.d (.bool (!decide (p = q))))) : cNe (.str p) (.str q) k := .inl ⟨p, q, rfl, rfl, h⟩
theorem st_lt_i (h : k (.d (.bool (decide (n < m))))) : cLt (.int n) (.int m) k := h
theorem st_le_i (h : k (.d (.bool (decide (n ≤ m))))) : cLe (.int n) (.int m) k := h
theorem st_gt_i (h : k (.d (.bool (decide (m < n))))) : cGt (.int n) (.int m) k := h
theorem st_ge_i (h : k (.d (.bool (decide (m ≤ n))))) : cGe (.int n) (.int m) k := h
theorem st_is_n (h : k (.d (.bool (isNone x)))) : cIs x .none k := by cases x <;> exact h
theorem st_isNot_n (h : k (.d (.bool (!isNone x)))) : cIsNot x .none k := by cases x <;> exact h
theorem st_is_b {p q : Bool} (h : k (.d (.bool (decide (p = q))))) : cIs (.bool p) (.bool q) k := h
theorem st_isNot_b {p q : Bool} (h : k (.d (.bool (!decide (p = q))))) : cIsNot (.bool p) (.bool q) k := h
theorem st_ix_l (e : L2.atI xs n = some x) (h : k (.d x)) : ixD (.list xs) (.int n) k := by
  show (match L2.atI xs n with | some x => k (.d x) | none => False)
  rw [e]; exact h
theorem st_ix_t (e : L2.atI xs n = some x) (h : k (.d x)) : ixD (.tuple xs) (.int n) k := by
  show (match L2.atI xs n with | some x => k (.d x) | none => False)
  rw [e]; exact h
theorem st_ix_lit {ns : List Int} {z : Int} (e : L2.atI ns n = some z) (h : k (.d (.int z))) : ixD (litD ns) (.int n) k := by
  show (match L2.atI (ns.map PyData.int) n with | some x => k (.d x) | none => False)
  rw [show L2.atI (ns.map PyData.int) n = some (.int z) by
    unfold L2.atI at e ⊢
    rw [List.length_map]
    cases q : L2.ixN ns.length n with
    | none => rw [q] at e; cases e
    | some j =>
      rw [q] at e
      show (ns.map PyData.int)[j]? = _
      rw [List.getElem?_map, show ns[j]? = some z from e]; rfl]
  exact h
theorem st_len_l (h : k (.d (.int (xs.length : Nat)))) : bLen [.list xs] k := h
theorem st_len_t (h : k (.d (.int (xs.length : Nat)))) : bLen [.tuple xs] k := h
theorem st_len_lit {ns : List Int} (h : k (.d (.int (ns.length : Nat)))) : bLen [litD ns] k := by
  show k (.d (.int ((ns.map PyData.int).length : Nat)))
  rw [List.length_map]; exact h
theorem st_abs (h : k (.d (.int (n.natAbs : Nat)))) : bAbs [.int n] k := by
  show k (.d (.int (if n < 0 then -n else n)))
  rw [show (if n < 0 then -n else n) = ((n.natAbs : Nat) : Int) by split <;> omega]
  exact h
theorem st_max2 (h : k (.d (.int (max n m)))) : bMax2 [.int n, .int m] k := by
  show k (.d (.int (if m > n then m else n)))
  rw [show (if m > n then m else n) = max n m by split <;> omega]
  exact h
theorem st_min2 (h : k (.d (.int (min n m)))) : bMin2 [.int n, .int m] k := by
  show k (.d (.int (if m < n then m else n)))
  rw [show (if m < n then m else n) = min n m by split <;> omega]
  exact h
theorem st_int_i (h : k (.d (.int n))) : bInt [.int n] k := h
theorem st_int_b {p : Bool} (h : k (.d (.int (if p then 1 else 0)))) : bInt [.bool p] k := h
theorem st_tuple_l (h : k (.d (.tuple xs))) : bTuple [.list xs] k := h
theorem st_tuple_t (h : k (.d (.tuple xs))) : bTuple [.tuple xs] k := h
theorem st_list_l (h : k (.own (.l xs))) : bList [.list xs] k := h
theorem st_list_t (h : k (.own (.l xs))) : bList [.tuple xs] k := h
theorem boolsOf_map' : ∀ bs : List Bool, boolsOf (bs.map PyData.bool) = some bs
  | [] => rfl
  | b :: bs => by show (boolsOf (bs.map PyData.bool)).map (b :: ·) = _; rw [boolsOf_map' bs]; rfl
theorem intsOf_map' : ∀ bs : List Int, intsOf (bs.map PyData.int) = some bs
  | [] => rfl
  | b :: bs => by show (intsOf (bs.map PyData.int)).map (b :: ·) = _; rw [intsOf_map' bs]; rfl
theorem st_all {bs : List Bool} (e : xs = bs.map PyData.bool) (h : k (.d (.bool (bs.all id)))) : bAll [.list xs] k := by
  show (match boolsOf xs with | some bs => k (.d (.bool (bs.all id))) | none => False)
  rw [e, boolsOf_map']; exact h
theorem st_any {bs : List Bool} (e : xs = bs.map PyData.bool) (h : k (.d (.bool (bs.any id)))) : bAny [.list xs] k := by
  show (match boolsOf xs with | some bs => k (.d (.bool (bs.any id))) | none => False)
  rw [e, boolsOf_map']; exact h
theorem st_isT {T : String} (e : isLit x = false) (h : k (.d (.bool (isTy T x)))) : bIs T x k := ⟨e, h⟩
theorem st_iteND {p : Prop} [Decidable p] (e : p) (h : B) : if (!decide p) = true then A else B := by rw [if_neg (by simp [e])]; exact h
theorem st_iteNF {p : Prop} [Decidable p] (e : ¬ p) (h : A) : if (!decide p) = true then A else B := by rw [if_pos (by simp [e])]; exact h
theorem st_iteLen {xs : List D} {m : Int} (e : ((xs.length : Nat) : Int) = m) (h : A) : if decide (((xs.length : Nat) : Int) = m) = true then A else B := by rw [if_pos (by simp [e])]; exact h
theorem st_iteNLen {xs : List D} {m : Int} (e : ((xs.length : Nat) : Int) = m) (h : B) : if (!decide (((xs.length : Nat) : Int) = m)) = true then A else B := by rw [if_neg (by simp [e])]; exact h
theorem st_iteBB {z : Bool} (h : B) : if (!(z == z)) = true then A else B := by rw [if_neg (by simp)]; exact h
theorem st_isTT {T : String} (e : isTy T x = true) (h : A) : if isTy T x = true then A else B := by rw [if_pos e]; exact h
theorem st_isTF {T : String} (e : isTy T x = false) (h : B) : if isTy T x = true then A else B := by rw [if_neg (by simp [e])]; exact h
theorem st_isNT {T : String} (e : isTy T x = true) (h : B) : if (!isTy T x) = true then A else B := by rw [if_neg (by simp [e])]; exact h
theorem st_isNF {T : String} (e : isTy T x = false) (h : A) : if (!isTy T x) = true then A else B := by rw [if_pos (by simp [e])]; exact h
theorem st_append {kk : D → List D → Prop} (z : xs.length < sizeLine) (h : kk .none (xs ++ [x])) : mAppend xs [x] kk := ⟨z, h⟩
theorem st_extend {kk : D → List D → Prop} (z : xs.length + ys.length ≤ sizeLine) (h : kk .none (xs ++ ys)) : mExtend xs [.list ys] kk := ⟨z, h⟩
theorem st_sl_l {lo hi : Option Int} (h : k (.own (.l (slD.cutL xs lo hi)))) : slD (.list xs) lo hi k := h
theorem st_sl_t {lo hi : Option Int} (h : k (.d (.tuple (slD.cutL xs lo hi)))) : slD (.tuple xs) lo hi k := h
theorem rangeD_cons {lo : Int} {n : Nat} : rangeD lo (n + 1) = .int lo :: rangeD (lo + 1) n := by
  unfold rangeD
  rw [List.range_succ_eq_map, List.map_cons, List.map_map]
  simp only [Int.natCast_zero, Int.add_zero, List.cons.injEq, true_and]
  apply List.map_congr_left
  intro k _
  simp only [Function.comp]
  congr 1
  omega
theorem loop_range {fg : FG} {wp : List Nat} (I : Int → S → Prop) {lo hi : Int} (hend : ∀ s, I (max lo hi) s → nx s)
    (hstep : ∀ i s (k : S → Prop), lo ≤ i → i < hi → I i s → (∀ s', I (i + 1) s' → k s') → fg (.int i) s fun s1 => f1 ⟨fun s2 => k (wipeS s2 wp), rt, fun s2 => wipeK s2 wp nx, fun s2 => k (wipeS s2 wp), xx⟩ s1)
    (h0 : I lo s) : fLoop fg wp f1 ⟨nx, rt, bk, ct, xx⟩ (rangeD lo (hi - lo).toNat) s := by
  have go : ∀ (n : Nat) (i : Int) (s : S), lo ≤ i → (hi - i).toNat = n → (i ≤ hi ∨ i = lo) → I i s → fLoop fg wp f1 ⟨nx, rt, bk, ct, xx⟩ (rangeD i n) s := by
    intro n
    induction n with
    | zero =>
      intro i s h1 h2 h3 h4
      refine hend s ?_
      rw [show max lo hi = i by omega]
      exact h4
    | succ n ih =>
      intro i s h1 h2 h3 h4
      rw [rangeD_cons]
      exact hstep i s (fLoop fg wp f1 ⟨nx, rt, bk, ct, xx⟩ (rangeD (i + 1) n)) h1 (by omega) h4 fun s' h' => ih (i + 1) s' (by omega) (by omega) (.inl (by omega)) h'
  exact go _ lo s (Int.le_refl _) rfl (.inr rfl) h0
theorem loop_range1 {fg : FG} {wp : List Nat} (I : Int → S → Prop) {hi : Int} (hend : ∀ s, I (max 0 hi) s → nx s)
    (hstep : ∀ i s (k : S → Prop), 0 ≤ i → i < hi → I i s → (∀ s', I (i + 1) s' → k s') → fg (.int i) s fun s1 => f1 ⟨fun s2 => k (wipeS s2 wp), rt, fun s2 => wipeK s2 wp nx, fun s2 => k (wipeS s2 wp), xx⟩ s1)
    (h0 : I 0 s) : fLoop fg wp f1 ⟨nx, rt, bk, ct, xx⟩ (rangeD 0 hi.toNat) s := by
  have q := loop_range (lo := 0) (hi := hi) (bk := bk) (ct := ct) I hend hstep h0
  rw [Int.sub_zero] at q
  exact q
theorem loop_while {wp : List Nat} (I : Nat → S → Prop) (hstep : ∀ n s (k : S → Prop), I n s → (∀ m s', m < n → I m s' → k s') → t xx s fun c s1 => if c = true then f1 ⟨fun s2 => k (wipeS s2 wp), rt, fun s2 => wipeK s2 wp nx, fun s2 => k (wipeS s2 wp), xx⟩ s1 else nx s1)
    (n : Nat) (h0 : I n (wipeS s wp)) : fWhile wp t f1 ⟨nx, rt, bk, ct, xx⟩ s := by
  refine ⟨n + 1, ?_⟩
  generalize wipeS s wp = s0 at h0
  have go : ∀ N m s', m < N → I m s' → fWhileN wp t f1 ⟨nx, rt, bk, ct, xx⟩ N s' := by
    intro N
    induction N with
    | zero => intro m s' h; omega
    | succ N ih => exact fun m s' hm hI => hstep m s' (fWhileN wp t f1 ⟨nx, rt, bk, ct, xx⟩ N) hI fun m' s'' hm' hI' => ih m' s'' (by omega) hI'
  exact go (n + 1) n s0 (by omega) h0
/-- without a test -/
theorem comp_all {fg : FG} {wp : List Nat} (f : D → D)
    : ∀ (xs acc : List D), (∀ x, x ∈ xs → ∀ (kT : D → S → Prop), kT (f x) s → fg x s fun s1 => e X s1 fun r s3 => frz r s3 fun d s4 => kT d (wipeS s4 wp)) →
      Q (.own (.l (acc ++ xs.map f))) s → fComp X fg wp fYes e Q xs acc s
  | [], acc, _, h => by
    have h : Q (.own (.l (acc ++ []))) s := h
    rw [List.append_nil] at h
    exact h
  | x :: xs, acc, hs, h => by
    exact hs x List.mem_cons_self (fun d s4 => fComp X fg wp fYes e Q xs (acc ++ [d]) s4) (comp_all f xs _ (fun x hx => hs x (List.mem_cons_of_mem _ hx)) (by simpa using h))
end
end Hs
namespace Hs
open PySem
section
variable {s' s'' : S}
variable {nx bk ct : S → Prop} {rt : R → S → Prop} {X xx : XF} {s : S} {a b c e : FE} {t u : FT} {f1 f2 : FS} {Q : R → S → Prop} {i j : Nat} {x y : D} {v : SV} {g g' : V2} {r : R} {rs : List R} {A B : Prop}
class StepTo (P : Prop) (P' : outParam Prop) : Prop where go : P' → P
theorem stepTo {P P' : Prop} [i : StepTo P P'] (h : P') : P := i.go h
instance go_st_seq : StepTo (fSeq f1 f2 ⟨nx, rt, bk, ct, xx⟩ s) (f1 ⟨fun s1 => f2 ⟨nx, rt, bk, ct, xx⟩ s1, rt, bk, ct, xx⟩ s) := ⟨fun h => st_seq h⟩
instance go_st_asg : StepTo (fAsg i a ⟨nx, rt, bk, ct, xx⟩ s) (a xx s fun r s1 => putR i r s1 nx) := ⟨fun h => st_asg h⟩
instance go_st_next : StepTo (fNext ⟨nx, rt, bk, ct, xx⟩ s) (nx s) := ⟨fun h => st_next h⟩
instance go_st_if : StepTo (fIfS t f1 f2 ⟨nx, rt, bk, ct, xx⟩ s) (t xx s fun c s1 => if c = true then f1 ⟨nx, rt, bk, ct, xx⟩ s1 else f2 ⟨nx, rt, bk, ct, xx⟩ s1) := ⟨fun h => st_if h⟩
instance go_st_ret : StepTo (fRet a ⟨nx, rt, bk, ct, xx⟩ s) (a xx s rt) := ⟨fun h => st_ret h⟩
instance go_st_retN : StepTo (fRetN ⟨nx, rt, bk, ct, xx⟩ s) (rt (.d .none) s) := ⟨fun h => st_retN h⟩
instance go_st_break : StepTo (fBreak ⟨nx, rt, bk, ct, xx⟩ s) (bk s) := ⟨fun h => st_break h⟩
instance go_st_drop : StepTo (fDrop a ⟨nx, rt, bk, ct, xx⟩ s) (a xx s fun _ s1 => nx s1) := ⟨fun h => st_drop h⟩
instance go_st_raise {n : Str} : StepTo (fRaise n ⟨nx, rt, bk, ct, xx⟩ s) (xx n s) := ⟨fun h => st_raise h⟩
instance go_st_put_d {k : S → Prop} [p : Put s i (.d x) s'] : StepTo (putR i (.d x) s k) (k s') := ⟨fun h => st_put_d h⟩
instance go_st_put_own {k : S → Prop} [p : Put s i v s'] : StepTo (putR i (.own v) s k) (k s') := ⟨fun h => st_put_own h⟩
instance go_st_put_top_l {k : S → Prop} {xs : List D} [g : Get s j (.l xs)] [p : Put s j (.d (.list xs)) s'] [p2 : Put s' i (.d (.list xs)) s''] : StepTo (putR i (.top j) s k) (k s'') := ⟨fun h => st_put_top_l h⟩
instance go_st_put_top_ll {k : S → Prop} {xs : List (List D)} [g : Get s j (.ll xs)] [p : Put s j (.d (.list (xs.map .list))) s'] [p2 : Put s' i (.d (.list (xs.map .list))) s''] : StepTo (putR i (.top j) s k) (k s'') := ⟨fun h => st_put_top_ll h⟩
instance go_st_put_top_dc {k : S → Prop} {xs : List (D × D)} [g : Get s j (.dc xs)] [p : Put s j (.d (.dict xs)) s'] [p2 : Put s' i (.d (.dict xs)) s''] : StepTo (putR i (.top j) s k) (k s'') := ⟨fun h => st_put_top_dc h⟩
instance go_st_unp {fg : FG} : StepTo (fUnp fg a ⟨nx, rt, bk, ct, xx⟩ s) (a xx s fun r s1 => frz r s1 fun d s2 => fg d s2 nx) := ⟨fun h => st_unp h⟩
instance go_st_par {fa : FA} : StepTo (fPar i j fa ⟨nx, rt, bk, ct, xx⟩ s) (fa xx s fun rs s2 => match rs with | [r1, r2] => frz r1 s2 fun d1 s3 => frz r2 s3 fun d2 s4 => putR i (.d d1) s4 fun s5 => putR j (.d d2) s5 nx | _ => False) := ⟨fun h => st_par h⟩
instance go_st_setIx : StepTo (fSetIx i b a ⟨nx, rt, bk, ct, xx⟩ s) (a xx s fun r s1 => onL i s1 fun _ => b xx s1 fun rj s2 => match rj with
  | .d (.int k) => frz r s2 fun d s3 => onL i s3 fun xs => 0 ≤ k ∧ k.toNat < xs.length ∧ putR i (.own (.l (xs.set k.toNat d))) s3 nx
  | _ => False) := ⟨fun h => st_setIx h⟩
instance go_st_onL {k : List D → Prop} {xs : List D} [e : Get s i (.l xs)] : StepTo (onL i s k) (k xs) := ⟨fun h => st_onL h⟩
instance go_st_wipe_nil {k : S → Prop} : StepTo (wipeK s [] k) (k s) := ⟨fun h => st_wipe_nil h⟩
instance go_st_wipe_cons {k : S → Prop} {is : List Nat} [p : Put s i .no s'] : StepTo (wipeK s (i :: is) k) (wipeK s' is k) := ⟨fun h => st_wipe_cons h⟩
instance go_st_for {it : FI} {fg : FG} {wp : List Nat} : StepTo (fFor it fg wp f1 ⟨nx, rt, bk, ct, xx⟩ s) (it xx s fun xs s1 => wipeK s1 wp fun s2 => fLoop fg wp f1 ⟨nx, rt, bk, ct, xx⟩ xs s2) := ⟨fun h => st_for h⟩
instance go_st_var_d [e : Get s i (.d x)] : StepTo (fVar i X s Q) (Q (.d x) s) := ⟨fun h => st_var_d h⟩
instance go_st_var_l {xs : List D} [e : Get s i (.l xs)] : StepTo (fVar i X s Q) (Q (.top i) s) := ⟨fun h => st_var_l h⟩
instance go_st_var_ll {xs : List (List D)} [e : Get s i (.ll xs)] : StepTo (fVar i X s Q) (Q (.top i) s) := ⟨fun h => st_var_ll h⟩
instance go_st_var_dc {xs : List (D × D)} [e : Get s i (.dc xs)] : StepTo (fVar i X s Q) (Q (.top i) s) := ⟨fun h => st_var_dc h⟩
instance go_st_C : StepTo (fC x X s Q) (Q (.d x) s) := ⟨fun h => st_C h⟩
instance go_st_nil {k : List R → S → Prop} : StepTo (fNil X s k) (k [] s) := ⟨fun h => st_nil h⟩
instance go_st_cons {k : List R → S → Prop} {fr : FA} : StepTo (fCons a fr X s k) (a X s fun x s1 => fr X s1 fun xs s2 => k (x :: xs) s2) := ⟨fun h => st_cons h⟩
instance go_st_tup {fr : FA} : StepTo (fTup fr X s Q) (fr X s fun rs s1 => frzAll rs s1 fun ds s2 => Q (.d (.tuple ds)) s2) := ⟨fun h => st_tup h⟩
instance go_st_lst {fr : FA} : StepTo (fLst fr X s Q) (fr X s fun rs s1 => frzAll rs s1 fun ds s2 => Q (.own (.l ds)) s2) := ⟨fun h => st_lst h⟩
instance go_st_op : StepTo (fOp g a b X s Q) (a X s fun r1 s1 => b X s1 fun r2 s2 => look s2 r1 fun d => look s2 r2 fun e => g d e fun r => Q r s2) := ⟨fun h => st_op h⟩
instance go_st_un {g1 : V1} : StepTo (fUn g1 a X s Q) (a X s fun r1 s1 => look s1 r1 fun d => g1 d fun r => Q r s1) := ⟨fun h => st_un h⟩
instance go_st_blt {gn : VN} {fr : FA} : StepTo (fBlt gn fr X s Q) (fr X s fun rs s1 => fBlt.lookAll s1 rs fun ds => gn ds fun r => Q r s1) := ⟨fun h => st_blt h⟩
instance go_st_lookAll_nil {k : List D → Prop} : StepTo (fBlt.lookAll s [] k) (k []) := ⟨fun h => st_lookAll_nil h⟩
instance go_st_lookAll_cons {k : List D → Prop} : StepTo (fBlt.lookAll s (r :: rs) k) (look s r fun d => fBlt.lookAll s rs fun ds => k (d :: ds)) := ⟨fun h => st_lookAll_cons h⟩
instance go_st_andV : StepTo (fAndV a b X s Q) (a X s fun r s1 => isB r fun c => if c = true then b X s1 Q else Q (.d (.bool false)) s1) := ⟨fun h => st_andV h⟩
instance go_st_orV : StepTo (fOrV a b X s Q) (a X s fun r s1 => isB r fun c => if c = true then Q (.d (.bool true)) s1 else b X s1 Q) := ⟨fun h => st_orV h⟩
instance go_st_notV : StepTo (fNotV a X s Q) (a X s fun r s1 => isB r fun c => Q (.d (.bool (!c))) s1) := ⟨fun h => st_notV h⟩
instance go_st_ifE : StepTo (fIfE t a b X s Q) (t X s fun c s1 => if c = true then a X s1 Q else b X s1 Q) := ⟨fun h => st_ifE h⟩
instance go_st_chain : StepTo (fChain g g' a b c X s Q) (a X s fun r1 s1 => b X s1 fun r2 s2 => look s2 r1 fun d => look s2 r2 fun e => g d e fun r => isB r fun k =>
  if k = true then c X s2 fun r3 s3 => look s3 r2 fun e' => look s3 r3 fun h => g' e' h fun z => Q z s3 else Q (.d (.bool false)) s2) := ⟨fun h => st_chain h⟩
instance go_st_sl {gs : D → Option Int → Option Int → (R → Prop) → Prop} {lo hi : FO} : StepTo (fSl gs a lo hi X s Q) (a X s fun r s1 => lo X s1 fun l s2 => hi X s2 fun h s3 => look s3 r fun d => gs d l h fun z => Q z s3) := ⟨fun h => st_sl h⟩
instance go_st_noPart {k : Option Int → S → Prop} : StepTo (fNoPart X s k) (k none s) := ⟨fun h => st_noPart h⟩
instance go_st_part {k : Option Int → S → Prop} : StepTo (fPart a X s k) (a X s fun r s1 => match r with | .d (.int i) => k (some i) s1 | _ => False) := ⟨fun h => st_part h⟩
instance go_st_putK_nil {fin : S} {k : S → Prop} : StepTo (putK [] [] fin s k) (k s) := ⟨fun h => st_putK_nil h⟩
instance go_st_putK_t {ms : List Bool} {fin : S} {f : SV} {k : S → Prop} [p : Put s i f s'] : StepTo (putK (true :: ms) (.top i :: rs) (f :: fin) s k) (putK ms rs fin s' k) := ⟨fun h => st_putK_t h⟩
instance go_st_putK_td {ms : List Bool} {fin : S} {f : SV} {k : S → Prop} : StepTo (putK (true :: ms) (.d x :: rs) (f :: fin) s k) (putK ms rs fin s k) := ⟨fun h => st_putK_td h⟩
instance go_st_putK_to {ms : List Bool} {fin : S} {f : SV} {k : S → Prop} : StepTo (putK (true :: ms) (.own v :: rs) (f :: fin) s k) (putK ms rs fin s k) := ⟨fun h => st_putK_to h⟩
instance go_st_putK_f {ms : List Bool} {fin : S} {f : SV} {k : S → Prop} : StepTo (putK (false :: ms) (r :: rs) (f :: fin) s k) (putK ms rs fin s k) := ⟨fun h => st_putK_f h⟩
instance go_st_lc {it : FI} {fg : FG} {wp : List Nat} : StepTo (fLc it fg wp t e X s Q) (it X s fun xs s1 => xs.length ≤ sizeLine ∧ wipeK s1 wp fun s2 => fComp (fun _ _ => False) fg wp t e Q xs [] s2) := ⟨fun h => st_lc h⟩
instance go_st_lm {lm : LM} {fr : FA} : StepTo (fLm i lm fr X s Q) (onL i s fun _ => fr X s fun rs s1 => frzAll rs s1 fun ds s2 => onL i s2 fun xs => lm xs ds fun d xs' => putR i (.own (.l xs')) s2 fun s3 => Q (.d d) s3) := ⟨fun h => st_lm h⟩
variable {q : Bool → S → Prop}
instance go_st_B : StepTo (fB a X s q) (a X s fun r s1 => isB r fun c => q c s1) := ⟨fun h => st_B h⟩
instance go_st_and : StepTo (fAnd t u X s q) (t X s fun c s1 => if c = true then u X s1 q else q false s1) := ⟨fun h => st_and h⟩
instance go_st_or : StepTo (fOr t u X s q) (t X s fun c s1 => if c = true then q true s1 else u X s1 q) := ⟨fun h => st_or h⟩
instance go_st_not : StepTo (fNot t X s q) (t X s fun c s1 => q (!c) s1) := ⟨fun h => st_not h⟩
instance go_st_yes : StepTo (fYes X s q) (q true s) := ⟨fun h => st_yes h⟩
instance go_st_isB {k : Bool → Prop} {z : Bool} : StepTo (isB (.d (.bool z)) k) (k z) := ⟨fun h => st_isB h⟩
instance go_st_t : StepTo (if true = true then A else B) (A) := ⟨fun h => st_t h⟩
instance go_st_f : StepTo (if false = true then A else B) (B) := ⟨fun h => st_f h⟩
instance go_st_nt : StepTo (if (!true) = true then A else B) (B) := ⟨fun h => st_nt h⟩
instance go_st_nf : StepTo (if (!false) = true then A else B) (A) := ⟨fun h => st_nf h⟩
instance go_st_look_d {k : D → Prop} : StepTo (look s (.d x) k) (k x) := ⟨fun h => st_look_d h⟩
instance go_st_look_own {k : D → Prop} {xs : List D} : StepTo (look s (.own (.l xs)) k) (k (.list xs)) := ⟨fun h => st_look_own h⟩
instance go_st_look_own_dc {k : D → Prop} {xs : List (D × D)} : StepTo (look s (.own (.dc xs)) k) (k (.dict xs)) := ⟨fun h => st_look_own_dc h⟩
instance go_st_look_top {k : D → Prop} {xs : List D} [e : Get s i (.l xs)] : StepTo (look s (.top i) k) (k (.list xs)) := ⟨fun h => st_look_top h⟩
instance go_st_look_top_d {k : D → Prop} [e : Get s i (.d x)] : StepTo (look s (.top i) k) (k x) := ⟨fun h => st_look_top_d h⟩
instance go_st_look_top_dc {k : D → Prop} {xs : List (D × D)} [e : Get s i (.dc xs)] : StepTo (look s (.top i) k) (k (.dict xs)) := ⟨fun h => st_look_top_dc h⟩
instance go_st_frz_d {k : D → S → Prop} : StepTo (frz (.d x) s k) (k x s) := ⟨fun h => st_frz_d h⟩
instance go_st_frz_own {k : D → S → Prop} {xs : List D} : StepTo (frz (.own (.l xs)) s k) (k (.list xs) s) := ⟨fun h => st_frz_own h⟩
instance go_st_frz_own_ll {k : D → S → Prop} {xs : List (List D)} : StepTo (frz (.own (.ll xs)) s k) (k (.list (xs.map .list)) s) := ⟨fun h => st_frz_own_ll h⟩
instance go_st_frz_own_dc {k : D → S → Prop} {xs : List (D × D)} : StepTo (frz (.own (.dc xs)) s k) (k (.dict xs) s) := ⟨fun h => st_frz_own_dc h⟩
instance go_st_frz_top {k : D → S → Prop} {xs : List D} [e : Get s i (.l xs)] [p : Put s i (.d (.list xs)) s'] : StepTo (frz (.top i) s k) (k (.list xs) s') := ⟨fun h => st_frz_top h⟩
instance go_st_frz_top_ll {k : D → S → Prop} {xs : List (List D)} [e : Get s i (.ll xs)] [p : Put s i (.d (.list (xs.map .list))) s'] : StepTo (frz (.top i) s k) (k (.list (xs.map .list)) s') := ⟨fun h => st_frz_top_ll h⟩
instance go_st_frz_top_dc {k : D → S → Prop} {xs : List (D × D)} [e : Get s i (.dc xs)] [p : Put s i (.d (.dict xs)) s'] : StepTo (frz (.top i) s k) (k (.dict xs) s') := ⟨fun h => st_frz_top_dc h⟩
instance go_st_frzAll_nil {k : List D → S → Prop} : StepTo (frzAll [] s k) (k [] s) := ⟨fun h => st_frzAll_nil h⟩
instance go_st_frzAll_cons {k : List D → S → Prop} : StepTo (frzAll (r :: rs) s k) (frz r s fun x s1 => frzAll rs s1 fun xs s2 => k (x :: xs) s2) := ⟨fun h => st_frzAll_cons h⟩
variable {ms : List Bool} {kb : List SV → S → Prop}
instance go_st_bind_nil : StepTo (bindA [] [] s kb) (kb [] s) := ⟨fun h => st_bind_nil h⟩
instance go_st_bind_f : StepTo (bindA (false :: ms) (r :: rs) s kb) (frz r s fun x s1 => bindA ms rs s1 fun svs s2 => kb (.d x :: svs) s2) := ⟨fun h => st_bind_f h⟩
instance go_st_bind_tt [g : Get s i v] [p : Put s i .no s'] : StepTo (bindA (true :: ms) (.top i :: rs) s kb) (bindA ms rs s' fun svs s2 => kb (v :: svs) s2) := ⟨fun h => st_bind_tt h⟩
instance go_st_bind_td : StepTo (bindA (true :: ms) (.d x :: rs) s kb) (bindA ms rs s fun svs s2 => kb (.d x :: svs) s2) := ⟨fun h => st_bind_td h⟩
instance go_st_bind_to : StepTo (bindA (true :: ms) (.own v :: rs) s kb) (bindA ms rs s fun svs s2 => kb (v :: svs) s2) := ⟨fun h => st_bind_to h⟩
instance go_st_out_d {k : R → S → Prop} : StepTo (outR (.d x) s k) (k (.d x) s) := ⟨fun h => st_out_d h⟩
instance go_st_out_own {k : R → S → Prop} : StepTo (outR (.own v) s k) (k (.own v) s) := ⟨fun h => st_out_own h⟩
instance go_st_out_top {k : R → S → Prop} [g : Get s i v] [p : Put s i .no s'] : StepTo (outR (.top i) s k) (k (.own v) s') := ⟨fun h => st_out_top h⟩
variable {kl : List D → S → Prop} {fr : FA} {ds : List D} {n m : Int}
instance go_st_seqI : StepTo (iSeq a X s kl) (a X s fun r s1 => frz r s1 fun d s2 => match d with | .list xs => kl xs s2 | .tuple xs => kl xs s2 | _ => False) := ⟨fun h => st_seqI h⟩
instance go_st_range1 : StepTo (iRange1 fr X s kl) (fr X s fun rs s1 => match rs with | [.d (.int j)] => lim62 j ∧ kl (rangeD 0 j.toNat) s1 | _ => False) := ⟨fun h => st_range1 h⟩
instance go_st_range2 : StepTo (iRange2 fr X s kl) (fr X s fun rs s2 => match rs with | [.d (.int i), .d (.int j)] => lim62 i ∧ lim62 j ∧ kl (rangeD i (j - i).toNat) s2 | _ => False) := ⟨fun h => st_range2 h⟩
instance go_st_enum : StepTo (iEnum fr X s kl) (fr X s fun rs s1 => frzAll rs s1 fun ds s2 => match ds with
  | [.list xs] => kl (enumD xs) s2
  | [.tuple xs] => kl (enumD xs) s2
  | _ => False) := ⟨fun h => st_enum h⟩
instance go_st_zip : StepTo (iZip fr X s kl) (fr X s fun rs s1 => frzAll rs s1 fun ds s4 => match ds with
  | [.list xs, .list ys] => kl (zipD xs ys) s4
  | [.tuple xs, .list ys] => kl (zipD xs ys) s4
  | [.list xs, .tuple ys] => kl (zipD xs ys) s4
  | [.tuple xs, .tuple ys] => kl (zipD xs ys) s4
  | _ => False) := ⟨fun h => st_zip h⟩
instance go_st_nm {k : S → Prop} [p : Put s i (.d x) s'] : StepTo (gNm i x s k) (k s') := ⟨fun h => st_nm h⟩
instance go_st_tp {k : S → Prop} {fgs : List FG} : StepTo (gTp fgs (.tuple ds) s k) (gTp.gTps fgs ds s k) := ⟨fun h => st_tp h⟩
instance go_st_tps_nil {k : S → Prop} : StepTo (gTp.gTps [] [] s k) (k s) := ⟨fun h => st_tps_nil h⟩
instance go_st_tps_cons {k : S → Prop} {fg : FG} {fgs : List FG} : StepTo (gTp.gTps (fg :: fgs) (x :: ds) s k) (fg x s fun s1 => gTp.gTps fgs ds s1 k) := ⟨fun h => st_tps_cons h⟩
variable {k : R → Prop} {xs ys : List D}
instance go_st_add_i : StepTo (opAdd (.int n) (.int m) k) (k (.d (.int (n + m)))) := ⟨fun h => st_add_i h⟩
instance go_st_sub_i : StepTo (opSub (.int n) (.int m) k) (k (.d (.int (n - m)))) := ⟨fun h => st_sub_i h⟩
instance go_st_neg_i : StepTo (uNeg (.int n) k) (k (.d (.int (-n)))) := ⟨fun h => st_neg_i h⟩
instance go_st_eq_i : StepTo (cEq (.int n) (.int m) k) (k (.d (.bool (decide (n = m))))) := ⟨fun h => st_eq_i h⟩
instance go_st_ne_i : StepTo (cNe (.int n) (.int m) k) (k (.d (.bool (!decide (n = m))))) := ⟨fun h => st_ne_i h⟩
instance go_st_eq_b {p q : Bool} : StepTo (cEq (.bool p) (.bool q) k) (k (.d (.bool (p == q)))) := ⟨fun h => st_eq_b h⟩
instance go_st_ne_b {p q : Bool} : StepTo (cNe (.bool p) (.bool q) k) (k (.d (.bool (!(p == q))))) := ⟨fun h => st_ne_b h⟩
instance go_st_eq_str {p q : Str} : StepTo (cEq (.str p) (.str q) k) (k (.d (.bool (decide (p = q))))) := ⟨fun h => st_eq_str h⟩
instance go_st_ne_str {p q : Str} : StepTo (cNe (.str p) (.str q) k) (k (.d (.bool (!decide (p = q))))) := ⟨fun h => st_ne_str h⟩
instance go_st_lt_i : StepTo (cLt (.int n) (.int m) k) (k (.d (.bool (decide (n < m))))) := ⟨fun h => st_lt_i h⟩
instance go_st_le_i : StepTo (cLe (.int n) (.int m) k) (k (.d (.bool (decide (n ≤ m))))) := ⟨fun h => st_le_i h⟩
instance go_st_gt_i : StepTo (cGt (.int n) (.int m) k) (k (.d (.bool (decide (m < n))))) := ⟨fun h => st_gt_i h⟩
instance go_st_ge_i : StepTo (cGe (.int n) (.int m) k) (k (.d (.bool (decide (m ≤ n))))) := ⟨fun h => st_ge_i h⟩
instance go_st_is_n : StepTo (cIs x .none k) (k (.d (.bool (isNone x)))) := ⟨fun h => st_is_n h⟩
instance go_st_isNot_n : StepTo (cIsNot x .none k) (k (.d (.bool (!isNone x)))) := ⟨fun h => st_isNot_n h⟩
instance go_st_is_b {p q : Bool} : StepTo (cIs (.bool p) (.bool q) k) (k (.d (.bool (decide (p = q))))) := ⟨fun h => st_is_b h⟩
instance go_st_isNot_b {p q : Bool} : StepTo (cIsNot (.bool p) (.bool q) k) (k (.d (.bool (!decide (p = q))))) := ⟨fun h => st_isNot_b h⟩
instance go_st_len_l : StepTo (bLen [.list xs] k) (k (.d (.int (xs.length : Nat)))) := ⟨fun h => st_len_l h⟩
instance go_st_len_t : StepTo (bLen [.tuple xs] k) (k (.d (.int (xs.length : Nat)))) := ⟨fun h => st_len_t h⟩
instance go_st_len_lit {ns : List Int} : StepTo (bLen [litD ns] k) (k (.d (.int (ns.length : Nat)))) := ⟨fun h => st_len_lit h⟩
instance go_st_abs : StepTo (bAbs [.int n] k) (k (.d (.int (n.natAbs : Nat)))) := ⟨fun h => st_abs h⟩
instance go_st_max2 : StepTo (bMax2 [.int n, .int m] k) (k (.d (.int (max n m)))) := ⟨fun h => st_max2 h⟩
instance go_st_min2 : StepTo (bMin2 [.int n, .int m] k) (k (.d (.int (min n m)))) := ⟨fun h => st_min2 h⟩
instance go_st_int_i : StepTo (bInt [.int n] k) (k (.d (.int n))) := ⟨fun h => st_int_i h⟩
instance go_st_int_b {p : Bool} : StepTo (bInt [.bool p] k) (k (.d (.int (if p then 1 else 0)))) := ⟨fun h => st_int_b h⟩
instance go_st_tuple_l : StepTo (bTuple [.list xs] k) (k (.d (.tuple xs))) := ⟨fun h => st_tuple_l h⟩
instance go_st_tuple_t : StepTo (bTuple [.tuple xs] k) (k (.d (.tuple xs))) := ⟨fun h => st_tuple_t h⟩
instance go_st_list_l : StepTo (bList [.list xs] k) (k (.own (.l xs))) := ⟨fun h => st_list_l h⟩
instance go_st_list_t : StepTo (bList [.tuple xs] k) (k (.own (.l xs))) := ⟨fun h => st_list_t h⟩
instance go_st_sl_l {lo hi : Option Int} : StepTo (slD (.list xs) lo hi k) (k (.own (.l (slD.cutL xs lo hi)))) := ⟨fun h => st_sl_l h⟩
instance go_st_sl_t {lo hi : Option Int} : StepTo (slD (.tuple xs) lo hi k) (k (.d (.tuple (slD.cutL xs lo hi)))) := ⟨fun h => st_sl_t h⟩
end
end Hs
namespace Hs
open PySem
section
variable {X : XF} {s : S} {Q : R → S → Prop} {fa fb : FE} {n m : Int} {k : R → Prop} {xs ys : List D} {x y : D}
theorem st_rg1 {mk : List D → R} (h : fa X s fun r s1 => match r with | .d (.int j) => L2.RgOk 0 j ∧ Q (mk (rangeD 0 j.toNat)) s1 | _ => False) : fRg1 mk fa X s Q := h
theorem st_rg2 {mk : List D → R} (h : fa X s fun r1 s1 => fb X s1 fun r2 s2 => match r1, r2 with | .d (.int i), .d (.int j) => L2.RgOk i j ∧ Q (mk (rangeD i (j - i).toNat)) s2 | _, _ => False) : fRg2 mk fa fb X s Q := h
theorem st_enumL {fr : FA} {kl : List D → S → Prop} (h : fr X s fun rs s1 => frzAll rs s1 fun ds s2 => match ds with
  | [.list xs] => kl (enumD xs) s2
  | [.tuple xs] => kl (enumD xs) s2
  | _ => False) : iEnumL fr X s kl := h
theorem st_zipS {fr : FA} {kl : List D → S → Prop} (h : fr X s fun rs s1 => frzAll rs s1 fun ds s4 => match ds with
  | [.list xs, .list ys] => kl (zipD xs ys) s4
  | [.tuple xs, .tuple ys] => kl (zipD xs ys) s4
  | _ => False) : iZipS fr X s kl := h
theorem st_rev_l (h : k (.own (.l xs.reverse))) : revD (.list xs) k := h
theorem st_rev_t (h : k (.d (.tuple xs.reverse))) : revD (.tuple xs) k := h
theorem st_in_t (z1 : SeqAt.shaped x = true) (z2 : SeqAt.shaped (.tuple xs) = true) (h : k (.d (.bool (xs.any fun z => PyData.eqv z x)))) : cIn x (.tuple xs) k := ⟨z1, z2, h⟩
theorem st_in_l (z1 : SeqAt.shaped x = true) (z2 : SeqAt.shaped (.list xs) = true) (h : k (.d (.bool (xs.any fun z => PyData.eqv z x)))) : cIn x (.list xs) k := ⟨z1, z2, h⟩
theorem st_notIn_t (z1 : SeqAt.shaped x = true) (z2 : SeqAt.shaped (.tuple xs) = true) (h : k (.d (.bool (!xs.any fun z => PyData.eqv z x)))) : cNotIn x (.tuple xs) k := ⟨z1, z2, h⟩
theorem st_notIn_l (z1 : SeqAt.shaped x = true) (z2 : SeqAt.shaped (.list xs) = true) (h : k (.d (.bool (!xs.any fun z => PyData.eqv z x)))) : cNotIn x (.list xs) k := ⟨z1, z2, h⟩
theorem st_lt_t {ns ms : List Int} (e1 : intsOf xs = some ns) (e2 : intsOf ys = some ms) (h : k (.d (.bool (HT.lexLt ns ms)))) : cLt (.tuple xs) (.tuple ys) k := by
  show (match intsOf xs, intsOf ys with | some ns, some ms => k (.d (.bool (HT.lexLt ns ms))) | _, _ => False)
  rw [e1, e2]; exact h
theorem st_sort_i {ns : List Int} (e : xs = ns.map PyData.int) (h : ∀ ms : List Int, ms.Perm ns → ms.Pairwise (· ≤ ·) → k (.own (.l (ms.map .int)))) : bSorted [.list xs] k := by
  subst e
  show (match intsOf (ns.map PyData.int) with | some _ => bSortI [.list (ns.map PyData.int)] k | none => _)
  rw [intsOf_map']
  show (match intsOf (ns.map PyData.int) with | some ns => ∀ ms : List Int, ms.Perm ns → ms.Pairwise (· ≤ ·) → k (.own (.l (ms.map .int))) | none => False)
  rw [intsOf_map']
  exact h
theorem pairsOf_map' : ∀ ps : List (Int × Int), pairsOf (ps.map pairD) = some ps
  | [] => rfl
  | p :: ps => by
    show (match pairOf (pairD p), pairsOf (ps.map pairD) with | some p, some ps => some (p :: ps) | _, _ => none) = _
    rw [pairsOf_map' ps]; rfl
theorem st_sort_p {ps : List (Int × Int)} (e : xs = ps.map pairD) (h : ∀ qs : List (Int × Int), qs.Perm ps → qs.Pairwise (fun p q => ltPr q p = false) → k (.own (.l (qs.map pairD)))) : bSorted [.list xs] k := by
  subst e
  cases ps with
  | nil => exact fun ms hp hs => by rw [hp.eq_nil]; exact h [] (List.Perm.refl _) .nil
  | cons p ps =>
    show (match pairsOf ((p :: ps).map pairD) with | some _ => bSortP [.list ((p :: ps).map pairD)] k | none => bSortT [.list ((p :: ps).map pairD)] k)
    rw [pairsOf_map']
    show (match pairsOf ((p :: ps).map pairD) with | some ps => ∀ qs : List (Int × Int), qs.Perm ps → qs.Pairwise (fun p q => ltPr q p = false) → k (.own (.l (qs.map pairD))) | none => False)
    rw [pairsOf_map']
    exact h
end
/-- all of truths -/
theorem st_all_true {k : R → Prop} {xs : List D} (h : k (.d (.bool true))) : bAll [.list (xs.map fun _ => .bool true)] k := by
  refine st_all (bs := xs.map fun _ => true) (by simp) ?_
  rw [show (xs.map fun _ => true).all id = true by simp]
  exact h
/-- a comprehension all of whose items are true -/
theorem comp_true {X : XF} {fg : FG} {wp : List Nat} {e : FE} {Q : R → S → Prop} {s : S} {xs : List D} (hs : ∀ x, x ∈ xs → ∀ (kT : D → S → Prop), kT (.bool true) s → fg x s fun s1 => e X s1 fun r s3 => frz r s3 fun d s4 => kT d (wipeS s4 wp)) (h : Q (.own (.l (xs.map fun _ => .bool true))) s) :
    fComp X fg wp fYes e Q xs [] s := comp_all (fun _ => .bool true) xs [] hs (by simpa using h)
/-- a comprehension that changes the state -/
theorem comp_inv {X : XF} {fg : FG} {wp : List Nat} {t : FT} {e : FE} {Q : R → S → Prop} (I : List D → List D → S → Prop) (hend : ∀ acc s, I [] acc s → Q (.own (.l acc)) s)
    (hstep : ∀ x xs acc s (kT : D → S → Prop) (kF : S → Prop), I (x :: xs) acc s → (∀ d s', I xs (acc ++ [d]) s' → kT d s') → (∀ s', I xs acc s' → kF s') → fg x s fun s1 => t X s1 fun b s2 => if b = true then e X s2 fun r s3 => frz r s3 fun d s4 => kT d (wipeS s4 wp) else kF (wipeS s2 wp)) :
    ∀ xs acc s, I xs acc s → fComp X fg wp t e Q xs acc s
  | [], acc, s, h => hend acc s h
  | x :: xs, acc, s, h => hstep x xs acc s (fun d s4 => fComp X fg wp t e Q xs (acc ++ [d]) s4) (fun s4 => fComp X fg wp t e Q xs acc s4) h (fun d s' h' => comp_inv I hend hstep xs _ s' h') fun s' h' => comp_inv I hend hstep xs _ s' h'
/-- a tuple of whole numbers -/
def IntT (m : Nat) (d : D) : Prop := ∃ ks : List Int, d = .tuple (ks.map .int) ∧ ks.length ≤ m
theorem IntT.cut {m : Nat} {ks : List Int} {lo hi : Option Int} (h : ks.length ≤ m) : ∃ ls : List Int, slD.cutL (ks.map PyData.int) lo hi = ls.map PyData.int ∧ ls.length ≤ m := by
  unfold slD.cutL
  rw [List.length_map, ← List.map_drop, ← List.map_take]
  exact ⟨_, rfl, by rw [List.length_take, List.length_drop]; omega⟩
theorem comp_list {α : Type} {X : XF} {fg : FG} {wp : List Nat} {e : FE} {Q : R → S → Prop} {s : S} (g f : α → D) (l : List α) (hs : ∀ a, a ∈ l → ∀ (kT : D → S → Prop), kT (f a) s → fg (g a) s fun s1 => e X s1 fun r s3 => frz r s3 fun d s4 => kT d (wipeS s4 wp)) (h : Q (.own (.l (l.map f))) s) :
    fComp X fg wp fYes e Q (l.map g) [] s := by
  have go : ∀ (l : List α) (acc : List D), (∀ a, a ∈ l → ∀ (kT : D → S → Prop), kT (f a) s → fg (g a) s fun s1 => e X s1 fun r s3 => frz r s3 fun d s4 => kT d (wipeS s4 wp)) → Q (.own (.l (acc ++ l.map f))) s → fComp X fg wp fYes e Q (l.map g) acc s := by
    intro l
    induction l with
    | nil =>
      intro acc _ h
      have h : Q (.own (.l (acc ++ []))) s := h
      rw [List.append_nil] at h
      exact h
    | cons a l ih =>
      intro acc hs h
      exact hs a List.mem_cons_self (fun d s4 => fComp X fg wp fYes e Q (l.map g) (acc ++ [d]) s4) (ih _ (fun b hb => hs b (List.mem_cons_of_mem _ hb)) (by simpa using h))
  exact go l [] hs (by simpa using h)
theorem comp_filter {α : Type} {X : XF} {fg : FG} {wp : List Nat} {t : FT} {e : FE} {Q : R → S → Prop} {s : S} (g f : α → D) (p : α → Bool) (l : List α)
    (hs : ∀ a, a ∈ l → ∀ (kT : D → S → Prop) (kF : S → Prop), (p a = true → kT (f a) s) → (p a = false → kF s) → fg (g a) s fun s1 => t X s1 fun b s2 => if b = true then e X s2 fun r s3 => frz r s3 fun d s4 => kT d (wipeS s4 wp) else kF (wipeS s2 wp)) (h : Q (.own (.l ((l.filter p).map f))) s) :
    fComp X fg wp t e Q (l.map g) [] s := by
  have go : ∀ (l : List α) (acc : List D), (∀ a, a ∈ l → ∀ (kT : D → S → Prop) (kF : S → Prop), (p a = true → kT (f a) s) → (p a = false → kF s) → fg (g a) s fun s1 => t X s1 fun b s2 => if b = true then e X s2 fun r s3 => frz r s3 fun d s4 => kT d (wipeS s4 wp) else kF (wipeS s2 wp)) →
      Q (.own (.l (acc ++ (l.filter p).map f))) s → fComp X fg wp t e Q (l.map g) acc s := by
    intro l
    induction l with
    | nil =>
      intro acc _ h
      have h : Q (.own (.l (acc ++ []))) s := h
      rw [List.append_nil] at h
      exact h
    | cons a l ih =>
      intro acc hs h
      refine hs a List.mem_cons_self (fun d s4 => fComp X fg wp t e Q (l.map g) (acc ++ [d]) s4) (fun s4 => fComp X fg wp t e Q (l.map g) acc s4) (fun q => ?_) (fun q => ?_)
      · exact ih _ (fun b hb => hs b (List.mem_cons_of_mem _ hb)) (by rw [List.filter_cons_of_pos (by simp [q])] at h; simpa using h)
      · exact ih _ (fun b hb => hs b (List.mem_cons_of_mem _ hb)) (by rw [List.filter_cons_of_neg (by simp [q])] at h; exact h)
  exact go l [] hs (by simpa using h)
theorem st_all_map {α : Type} {l : List α} {b : α → Bool} {k : R → Prop} (h : k (.d (.bool (l.all b)))) : bAll [.list (l.map fun a => .bool (b a))] k := by
  refine st_all (bs := l.map b) (by simp) ?_
  rw [List.all_map]
  exact h
theorem st_any_map {α : Type} {l : List α} {b : α → Bool} {k : R → Prop} (h : k (.d (.bool (l.any b)))) : bAny [.list (l.map fun a => .bool (b a))] k := by
  refine st_any (bs := l.map b) (by simp) ?_
  rw [List.any_map]
  exact h
theorem loop_list {α : Type} {nx bk ct : S → Prop} {rt : R → S → Prop} {xx : XF} {f1 : FS} {fg : FG} {wp : List Nat} (g : α → D) (I : List α → S → Prop) (hend : ∀ s, I [] s → nx s)
    (hstep : ∀ a l s (k : S → Prop), I (a :: l) s → (∀ s', I l s' → k s') → fg (g a) s fun s1 => f1 ⟨fun s2 => k (wipeS s2 wp), rt, fun s2 => wipeK s2 wp nx, fun s2 => k (wipeS s2 wp), xx⟩ s1) : ∀ l s, I l s → fLoop fg wp f1 ⟨nx, rt, bk, ct, xx⟩ (l.map g) s
  | [], s, h => hend s h
  | a :: l, s, h => hstep a l s (fLoop fg wp f1 ⟨nx, rt, bk, ct, xx⟩ (l.map g)) h fun s' h' => loop_list g I hend hstep l s' h'
theorem st_mul_l {xs : List D} {n : Int} {k : R → Prop} (z1 : -(2 ^ 63) ≤ n) (z2 : n < 2 ^ 63) (z3 : xs.length * n.toNat ≤ sizeLine) (h : k (.own (.l (List.replicate n.toNat xs).flatten))) : opMul (.list xs) (.int n) k := ⟨z1, z2, z3, h⟩
theorem st_ne_lit {ns : List Int} {k : R → Prop} (h : k (.d (.bool (decide (0 < ns.length))))) : cNe (litD ns) (.list []) k := by
  have one : ∀ ns : List Int, PyData.canLayAll0 (ns.map PyData.int) = true ∧ PyData.depthAll (ns.map PyData.int) ≤ 1 := by
    intro ns
    induction ns with
    | nil => exact ⟨rfl, by show (0 : Nat) ≤ 1; decide⟩
    | cons n ns ih =>
      refine ⟨?_, ?_⟩
      · show ((PyData.int n).canLay0 && PyData.canLayAll0 (ns.map PyData.int)) = true
        rw [ih.1]; rfl
      · show max ((PyData.int n).depth) (PyData.depthAll (ns.map PyData.int)) ≤ 1
        have h2 : (PyData.int n).depth ≤ 1 := by simp [PyData.depth]
        have h3 := ih.2
        omega
  obtain ⟨o1, o2⟩ := one ns
  refine st_ne (x := litD ns) ?_ rfl ?_
  · show SeqAt.shaped (.list (ns.map PyData.int)) = true
    unfold SeqAt.shaped
    rw [show (PyData.list (ns.map PyData.int)).canLay0 = PyData.canLayAll0 (ns.map PyData.int) from by simp [PyData.canLay0], o1]
    simp [PyData.depth]
    omega
  · show k (.d (.bool (!PyData.eqvAll (ns.map PyData.int) [])))
    cases ns with
    | nil => exact h
    | cons n ns => simpa [PyData.eqvAll] using h
theorem st_insert {kk : D → List D → Prop} {xs : List D} {j : Int} {d : D} (z : xs.length < sizeLine) (z1 : 0 ≤ j) (z2 : j < 2 ^ 63) (h : kk .none (xs.take j.toNat ++ [d] ++ xs.drop j.toNat)) : mInsert xs [.int j, d] kk := ⟨z, z1, z2, h⟩
theorem shaped_int {i : Int} : SeqAt.shaped (.int i) = true := rfl
theorem canLay_pairs : ∀ ts : List (Int × Int), PyData.canLayAll0 (ts.map pairD) = true
  | [] => rfl
  | t :: ts => by
    show ((pairD t).canLay0 && PyData.canLayAll0 (ts.map pairD)) = true
    rw [canLay_pairs ts]; rfl
theorem depth_pairs : ∀ ts : List (Int × Int), PyData.depthAll (ts.map pairD) ≤ 2
  | [] => by show (0 : Nat) ≤ 2; decide
  | t :: ts => by
    show max ((pairD t).depth) (PyData.depthAll (ts.map pairD)) ≤ 2
    have h := depth_pairs ts
    have h2 : (pairD t).depth ≤ 2 := by unfold pairD; simp [PyData.depth, PyData.depthAll]
    omega
theorem shaped_pairD {p : Int × Int} : SeqAt.shaped (pairD p) = true := rfl
theorem shaped_pairs {ts : List (Int × Int)} : SeqAt.shaped (.tuple (ts.map pairD)) = true := by
  unfold SeqAt.shaped
  rw [show (PyData.tuple (ts.map pairD)).canLay0 = PyData.canLayAll0 (ts.map pairD) from by simp [PyData.canLay0], canLay_pairs]
  have h := depth_pairs ts
  simp [PyData.depth]
  omega
theorem shaped_pairsL {ts : List (Int × Int)} : SeqAt.shaped (.list (ts.map pairD)) = true := by
  unfold SeqAt.shaped
  rw [show (PyData.list (ts.map pairD)).canLay0 = PyData.canLayAll0 (ts.map pairD) from by simp [PyData.canLay0], canLay_pairs]
  have h := depth_pairs ts
  simp [PyData.depth]
  omega
theorem eqv_pair {p q : Int × Int} : PyData.eqv (pairD p) (pairD q) = decide (p = q) := by
  obtain ⟨a, b⟩ := p
  obtain ⟨c, d⟩ := q
  simp only [pairD, PyData.eqv, PyData.eqvAll, Prod.mk.injEq, Bool.and_true]
  by_cases h1 : a = c <;> by_cases h2 : b = d <;> simp [h1, h2]
theorem any_pair {ts : List (Int × Int)} {p : Int × Int} : ((ts.map pairD).any fun z => PyData.eqv z (pairD p)) = decide (p ∈ ts) := by
  rw [List.any_map]
  apply Bool.eq_iff_iff.mpr
  simp only [List.any_eq_true, Function.comp, eqv_pair, decide_eq_true_eq]
  constructor
  · rintro ⟨q, h, rfl⟩; exact h
  · intro h; exact ⟨p, h, rfl⟩
theorem st_in_pt {ts : List (Int × Int)} {a b : Int} {k : R → Prop} (h : k (.d (.bool (decide ((a, b) ∈ ts))))) : cIn (.tuple [.int a, .int b]) (.tuple (ts.map pairD)) k := by
  refine st_in_t (shaped_pairD (p := (a, b))) shaped_pairs ?_
  rw [show (PyData.tuple [.int a, .int b]) = pairD (a, b) from rfl, any_pair]
  exact h
theorem st_in_pl {ts : List (Int × Int)} {a b : Int} {k : R → Prop} (h : k (.d (.bool (decide ((a, b) ∈ ts))))) : cIn (.tuple [.int a, .int b]) (.list (ts.map pairD)) k := by
  refine st_in_l (shaped_pairD (p := (a, b))) shaped_pairsL ?_
  rw [show (PyData.tuple [.int a, .int b]) = pairD (a, b) from rfl, any_pair]
  exact h
/-- a web -/
abbrev webD (n : Int) (ts : List (Int × Int)) : D := .tuple [.int n, .tuple (ts.map pairD)]
structure Good (n : Int) (ts : List (Int × Int)) : Prop where
  n0 : 0 ≤ n
  n10 : n ≤ 10
  ties : ∀ p ∈ ts, 0 ≤ p.1 ∧ p.1 < p.2 ∧ p.2 < n
  up : ts.Pairwise (fun p q => ltPr p q = true)
  few : ts.length ≤ 1000
theorem lex_pair {p q : Int × Int} : HT.lexLt [p.1, p.2] [q.1, q.2] = ltPr p q := by
  unfold ltPr
  rw [HT.lexLt_cons]
  by_cases h : p.1 = q.1
  · rw [if_pos h, h, HT.lexLt_cons]
    by_cases h2 : p.2 = q.2
    · rw [if_pos h2, h2]; simp [HT.lexLt_nil_nil]
    · rw [if_neg h2]; simp
  · rw [if_neg h]; simp [h]
theorem at_ok {ns : List Int} {i : Int} (h0 : 0 ≤ i) (h1 : i < (ns.length : Int)) : ∃ z, L2.atI ns i = some z := by
  obtain ⟨k, rfl⟩ := Int.eq_ofNat_of_zero_le h0
  have hk : k < ns.length := by omega
  exact ⟨ns[k], L2.atI_nat (by simp [hk])⟩
/-- sorted, each once: strictly rising -/
theorem strict_of {ps qs : List (Int × Int)} (hp : qs.Perm ps) (hn : ps.Nodup) (hs : qs.Pairwise (fun p q => ltPr q p = false)) : qs.Pairwise (fun p q => ltPr p q = true) := by
  have hn' : qs.Pairwise (· ≠ ·) := hp.nodup_iff.mpr hn
  refine (List.Pairwise.and hs hn').imp fun {p q} h => ?_
  obtain ⟨h1, h2⟩ := h
  obtain ⟨a, b⟩ := p
  obtain ⟨c, d⟩ := q
  unfold ltPr at *
  simp only [Bool.or_eq_true, decide_eq_true_eq, Bool.and_eq_true, beq_iff_eq, Bool.or_eq_false_iff, Bool.and_eq_false_iff, decide_eq_false_iff_not, beq_eq_false_iff_ne, ne_eq, Prod.mk.injEq] at *
  omega
def atZ (ks : List Int) (i : Int) : Int := ks.getD i.toNat 0
theorem atZ_ok {ks : List Int} {i : Int} (h0 : 0 ≤ i) (h1 : i < (ks.length : Int)) : L2.atI (ks.map PyData.int) i = some (.int (atZ ks i)) := by
  obtain ⟨k, rfl⟩ := Int.eq_ofNat_of_zero_le h0
  have hk : k < ks.length := by omega
  refine L2.atI_nat ?_
  rw [List.getElem?_map, List.getElem?_eq_getElem hk]
  simp [atZ, List.getD_eq_getElem?_getD, List.getElem?_eq_getElem hk]
theorem lay_ints : ∀ ns : List Int, PyData.canLayAll0 (ns.map PyData.int) = true ∧ PyData.depthAll (ns.map PyData.int) ≤ 1
  | [] => ⟨rfl, Nat.zero_le _⟩
  | n :: ns => by
    obtain ⟨h1, h2⟩ := lay_ints ns
    refine ⟨by show ((PyData.int n).canLay0 && PyData.canLayAll0 (ns.map PyData.int)) = true; rw [h1]; rfl, ?_⟩
    show max ((PyData.int n).depth) (PyData.depthAll (ns.map PyData.int)) ≤ 1
    have h3 : (PyData.int n).depth ≤ 1 := by simp [PyData.depth]
    omega
theorem shaped_intsL {ns : List Int} : SeqAt.shaped (.list (ns.map PyData.int)) = true := by
  obtain ⟨h1, h2⟩ := lay_ints ns
  unfold SeqAt.shaped
  rw [show (PyData.list (ns.map PyData.int)).canLay0 = PyData.canLayAll0 (ns.map PyData.int) from by simp [PyData.canLay0], h1]
  simp [PyData.depth]
  omega
theorem shaped_intsT {ns : List Int} : SeqAt.shaped (.tuple (ns.map PyData.int)) = true := by
  obtain ⟨h1, h2⟩ := lay_ints ns
  unfold SeqAt.shaped
  rw [show (PyData.tuple (ns.map PyData.int)).canLay0 = PyData.canLayAll0 (ns.map PyData.int) from by simp [PyData.canLay0], h1]
  simp [PyData.depth]
  omega
theorem eqv_ints : ∀ ns ms : List Int, PyData.eqvAll (ns.map PyData.int) (ms.map PyData.int) = decide (ns = ms)
  | [], [] => rfl
  | [], _ :: _ => rfl
  | _ :: _, [] => rfl
  | n :: ns, m :: ms => by
    show (PyData.eqv (.int n) (.int m) && PyData.eqvAll (ns.map PyData.int) (ms.map PyData.int)) = _
    rw [eqv_ints ns ms]
    simp only [PyData.eqv]
    by_cases h1 : n = m <;> by_cases h2 : ns = ms <;> simp [h1, h2]
theorem st_ne_ll {ns ms : List Int} {k : R → Prop} (h : k (.d (.bool (!decide (ns = ms))))) : cNe (.list (ns.map .int)) (.list (ms.map .int)) k := by
  refine st_ne (x := .list (ns.map .int)) (y := .list (ms.map .int)) shaped_intsL shaped_intsL ?_
  show k (.d (.bool (!PyData.eqvAll (ns.map .int) (ms.map .int))))
  rw [eqv_ints]
  exact h
def rangeI (n : Nat) : List Int := (List.range n).map fun (k : Nat) => (k : Int)
theorem rangeD_map {n : Nat} : rangeD 0 n = (rangeI n).map PyData.int := by
  unfold rangeD rangeI
  rw [List.map_map]
  apply List.map_congr_left
  intro k _
  simp
theorem rangeI_len {n : Nat} : (rangeI n).length = n := by unfold rangeI; simp
theorem rangeI_mem {n : Nat} {i : Int} : i ∈ rangeI n ↔ 0 ≤ i ∧ i < n := by
  unfold rangeI
  rw [List.mem_map]
  constructor
  · rintro ⟨k, hk, rfl⟩
    have := List.mem_range.mp hk
    omega
  · rintro ⟨h0, h1⟩
    exact ⟨i.toNat, List.mem_range.mpr (by omega), by omega⟩
/-- script, where, what is left to be drawn from; F draws are allowed at least -/
def Cup (ns : List Int) (F : Nat) (xs : List D) : Prop := ∃ a v : Int, xs = [litD ns, .int a, .int v] ∧ 0 ≤ a ∧ a + (F : Int) ≤ 2 ^ 64
theorem Cup.less {ns : List Int} {F G : Nat} {xs : List D} (h : Cup ns F xs) (l : G ≤ F) : Cup ns G xs := by
  obtain ⟨a, v, e, h0, h1⟩ := h
  exact ⟨a, v, e, h0, by omega⟩
end Hs
namespace Hs
open PySem
class PvAll (ws : List PV) (ds : outParam (List D)) : Prop where e : ws.map PV.asD = ds
instance pvN : PvAll [] [] := ⟨rfl⟩
instance pvD {x : D} {ws : List PV} {ds : List D} [h : PvAll ws ds] : PvAll (.d x :: ws) (x :: ds) := ⟨by rw [List.map_cons, h.e]; rfl⟩
instance pvL {x : List D} {ws : List PV} {ds : List D} [h : PvAll ws ds] : PvAll (.l x :: ws) (.list x :: ds) := ⟨by rw [List.map_cons, h.e]; rfl⟩
instance pvC {x : List (D × D)} {ws : List PV} {ds : List D} [h : PvAll ws ds] : PvAll (.dc x :: ws) (.dict x :: ds) := ⟨by rw [List.map_cons, h.e]; rfl⟩
class Frz (s : S) (s' : outParam S) : Prop where e : frzS s = s'
instance frzN : Frz [] [] := ⟨rfl⟩
theorem frzC {w : SV} {s s' : S} (h : frzS s = s') : frzS (w :: s) = frz1 w :: s' := by rw [← h]; rfl
instance frzNo {s s' : S} [h : Frz s s'] : Frz (.no :: s) (.no :: s') := ⟨frzC h.e⟩
instance frzD {x : D} {s s' : S} [h : Frz s s'] : Frz (.d x :: s) (.d x :: s') := ⟨frzC h.e⟩
instance frzL {x : List D} {s s' : S} [h : Frz s s'] : Frz (.l x :: s) (.d (.list x) :: s') := ⟨frzC h.e⟩
instance frzLL {x : List (List D)} {s s' : S} [h : Frz s s'] : Frz (.ll x :: s) (.d (.list (x.map .list)) :: s') := ⟨frzC h.e⟩
instance frzDc {x : List (D × D)} {s s' : S} [h : Frz s s'] : Frz (.dc x :: s) (.d (.dict x) :: s') := ⟨frzC h.e⟩
instance frzTp {ws : List PV} {ds : List D} {s s' : S} [p : PvAll ws ds] [h : Frz s s'] : Frz (.tp ws :: s) (.d (.tuple ds) :: s') := ⟨by
  rw [← p.e]
  exact frzC h.e⟩
def bindT (rs : List R) (s : S) (k : List SV → S → Prop) : Prop := bindA (List.replicate rs.length true) rs s k
section
variable {s' s'' : S}
variable {nx bk ct : S → Prop} {rt : R → S → Prop} {X xx : XF} {s : S} {a b c e : FE} {t u : FT} {f1 f2 : FS} {Q : R → S → Prop} {P : R → Prop} {i j : Nat} {x y d : D} {v : SV} {g g' : V2} {r : R} {rs : List R}
theorem st_ix2_l {xs : List D} (h : ixD (.list xs) x P) : ixD2 (.list xs) x P := .inl h
theorem st_ix2_t {xs : List D} (h : ixD (.tuple xs) x P) : ixD2 (.tuple xs) x P := .inl h
theorem st_ix2_s {z : Str} (h : ixD (.str z) x P) : ixD2 (.str z) x P := .inl h
theorem st_ix2_lit {ns : List Int} (h : ixD (litD ns) x P) : ixD2 (litD ns) x P := .inl h
theorem st_inK_l {xs : List D} (h : cIn x (.list xs) P) : cInK x (.list xs) P := .inl h
theorem st_inK_t {xs : List D} (h : cIn x (.tuple xs) P) : cInK x (.tuple xs) P := .inl h
theorem st_ninK_l {xs : List D} (h : cNotIn x (.list xs) P) : cNotInK x (.list xs) P := .inl h
theorem st_ninK_t {xs : List D} (h : cNotIn x (.tuple xs) P) : cNotInK x (.tuple xs) P := .inl h
theorem st_setD (h : a xx s fun r s1 => onDc i s1 fun _ => e xx s1 fun rj s2 => frz r s2 fun d s3 => frz rj s3 fun k s4 => onDc i s4 fun kvs => dPut kvs k d fun kvs' => putR i (.own (.dc kvs')) s4 nx) : fSetD i e a ⟨nx, rt, bk, ct, xx⟩ s := h
theorem st_onDc {k : List (D × D) → Prop} {xs : List (D × D)} [e : Get s i (.dc xs)] (h : k xs) : onDc i s k := by unfold onDc; rw [e.e]; exact h
theorem st_dget2 (h : onDc i s fun _ => a X s fun rj s1 => b X s1 fun rx s2 => frz rj s2 fun k s3 => frz rx s3 fun d s4 => onDc i s4 fun kvs => dGet kvs k fun o => Q (.d (o.getD d)) s4) : fDGet2 i a b X s Q := h
theorem st_emT (h : Q (.own (.dc [(.none, .none)])) s) : fEmT X s Q := h
def keyK (d : D) (K : L2.Key → Prop) : Prop := match keyN d with
  | some k' => K k'
  | none => False
theorem st_disp1 (h : a X s fun rk s1 => b X s1 fun rv s2 => frz rk s2 fun kd s3 => frz rv s3 fun d s4 => keyK kd fun k' => Q (.own (.dc [(keyD k', d)])) s4) : fDisp1 a b X s Q := h
theorem st_disp1k {z : Int} {K : L2.Key → Prop} (h : K (.inl z)) : keyK (.int z) K := h
theorem st_range3 {fa : FA} {Q : List D → S → Prop} (h : fa X s fun rs s2 => match rs with
  | [.d (.int i), .d (.int j), .d (.int c)] => c = -1 ∧ lim62 i ∧ lim62 j ∧ Q (downD i (i - j).toNat) s2
  | _ => False) : iRange3 fa X s Q := h
theorem st_bor [f : Frz s s'] (h : a (fun _ _ => False) s' fun r _ => flatR r (Q r s)) : fBor a X s Q := by
  unfold fBor
  rw [f.e]
  exact h
theorem st_borT {Q : Bool → S → Prop} [f : Frz s s'] (h : t (fun _ _ => False) s' fun b _ => Q b s) : fBorT t X s Q := by
  unfold fBorT
  rw [f.e]
  exact h
theorem st_bindT_nil {k : List SV → S → Prop} (h : k [] s) : bindT [] s k := h
theorem st_bindT_d {k : List SV → S → Prop} (h : bindT rs s fun svs s2 => k (.d x :: svs) s2) : bindT (.d x :: rs) s k := h
theorem st_bindT_o {k : List SV → S → Prop} (h : bindT rs s fun svs s2 => k (v :: svs) s2) : bindT (.own v :: rs) s k := h
theorem st_bindT_t {k : List SV → S → Prop} [g : Get s i v] [p : Put s i .no s'] (h : bindT rs s' fun svs s2 => k (v :: svs) s2) : bindT (.top i :: rs) s k := by
  show bindA (List.replicate rs.length true) rs (s.set i .no) (fun svs s2 => k (s.getD i .no :: svs) s2)
  rw [p.e, g.e]
  exact h
theorem st_toPs_nil {k : List PV → Prop} (h : k []) : toPs [] k := h
theorem st_toPs_d {k : List PV → Prop} {r : List SV} (h : toPs r fun ws => k (.d x :: ws)) : toPs (.d x :: r) k := h
theorem st_toPs_l {k : List PV → Prop} {r : List SV} {xs : List D} (h : toPs r fun ws => k (.l xs :: ws)) : toPs (.l xs :: r) k := h
theorem st_toPs_dc {k : List PV → Prop} {r : List SV} {xs : List (D × D)} (h : toPs r fun ws => k (.dc xs :: ws)) : toPs (.dc xs :: r) k := h
theorem st_tupO {fa : FA} (h : fa X s fun rs s1 => bindT rs s1 fun svs s2 => toPs svs fun ws => Q (.own (.tp ws)) s2) : fTupO fa X s Q := h
theorem st_var_tp {ws : List PV} [e : Get s i (.tp ws)] (h : Q (.top i) s) : fVar i X s Q := by unfold fVar; rw [e.e]; exact h
theorem st_frz_own_tp {k : D → S → Prop} {ws : List PV} {ds : List D} [e : PvAll ws ds] (h : k (.tuple ds) s) : frz (.own (.tp ws)) s k := by
  show k (.tuple (ws.map PV.asD)) s
  rw [e.e]; exact h
theorem st_frz_top_tp {k : D → S → Prop} {ws : List PV} {ds : List D} [g : Get s i (.tp ws)] [e : PvAll ws ds] [p : Put s i (.d (.tuple ds)) s'] (h : k (.tuple ds) s') : frz (.top i) s k := frz_top' (x := .tuple ds) (by rw [g.e]; show some (PyData.tuple (ws.map PV.asD)) = _; rw [e.e]) (by rw [p.e]; exact h)
theorem st_onP {k : Nat} {kk : List PV → List D → Prop} {ws : List PV} {xs : List D} [g : Get s i (.tp ws)] (e : ws[k]? = some (.l xs)) (h : kk ws xs) : onP i k s kk := by
  unfold onP
  rw [g.e]
  dsimp only
  rw [e]
  exact h
theorem st_lmP {k : Nat} {g : LM} {fa : FA} (h : onP i k s fun _ _ => fa X s fun rs s1 => frzAll rs s1 fun ds s2 => onP i k s2 fun ws xs => g xs ds fun d xs' => putR i (.own (.tp (ws.set k (.l xs')))) s2 fun s3 => Q (.d d) s3) : fLmP i k g fa X s Q := h
theorem st_flat_b {P : Prop} {z : Bool} (h : P) : flatR (.d (.bool z)) P := ⟨rfl, h⟩
theorem st_flat_i {P : Prop} {z : Int} (h : P) : flatR (.d (.int z)) P := ⟨rfl, h⟩
end
structure DIs (kvs : List (D × D)) (f : Int → Option D) : Prop where
  key : ∀ p ∈ kvs, ∃ i : Int, p.1 = .int i
  get : ∀ i : Int, (kvs.find? fun p => sameN p.1 (.inl i)).map (·.2) = f i
theorem DIs.nil : DIs [] fun _ => none := ⟨fun p hp => (nomatch hp), fun i => rfl⟩
theorem DIs.one (k : Int) (x : D) : DIs [(keyD (.inl k), x)] fun i => if i = k then some x else none := by
  refine ⟨fun p hp => ?_, fun i => ?_⟩
  · rw [List.mem_singleton] at hp
    exact ⟨k, by rw [hp]; rfl⟩
  · rw [List.find?_cons]
    dsimp only
    rw [sameN_keyD]
    by_cases h : i = k
    · subst h
      simp
    · rw [decide_eq_false (fun e => h (Sum.inl.inj e).symm), if_neg h]
      rfl
theorem DIs.dGet {kvs : List (D × D)} {f : Int → Option D} (h : DIs kvs f) {i : Int} {Q : Option D → Prop} (q : Q (f i)) : Hs.dGet kvs (.int i) Q := by
  unfold Hs.dGet
  rw [← h.get i] at q
  split
  · obtain ⟨j, e⟩ := h.key _ List.mem_cons_self
    cases e
  · obtain ⟨j, e⟩ := h.key _ List.mem_cons_self
    cases e
  · exact q
theorem find_repl {k : L2.Key} {x : D} (j : L2.Key) : ∀ kvs : List (D × D), ((kvs.map fun p => if sameN p.1 k = true then (p.1, x) else p).find? fun p => sameN p.1 j).map (·.2) = if j = k then ((kvs.find? fun p => sameN p.1 j).map fun _ => x) else (kvs.find? fun p => sameN p.1 j).map (·.2)
  | [] => by simp
  | p :: r => by
    have ih := find_repl (k := k) (x := x) j r
    rw [List.map_cons, List.find?_cons, List.find?_cons]
    have e1 : (if sameN p.1 k = true then (p.1, x) else p).1 = p.1 := by split <;> rfl
    rw [e1]
    cases hs : sameN p.1 j with
    | false => exact ih
    | true =>
      by_cases h : j = k
      · subst h
        rw [if_pos rfl, if_pos hs]; rfl
      · have : ¬ sameN p.1 k = true := fun h2 => by
          unfold sameN at hs h2
          have h3 := of_decide_eq_true hs
          have h4 := of_decide_eq_true h2
          rw [h3] at h4
          exact h (Option.some.inj h4)
        rw [if_neg h, if_neg this]
theorem find_snoc {k : L2.Key} {x : D} (j : L2.Key) : ∀ kvs : List (D × D), (kvs.any fun p => sameN p.1 k) = false → ((kvs ++ [(keyD k, x)]).find? fun p => sameN p.1 j).map (·.2) = if j = k then some x else (kvs.find? fun p => sameN p.1 j).map (·.2)
  | [], _ => by
    rw [List.nil_append, List.find?_cons]
    dsimp only
    rw [sameN_keyD]
    by_cases h : j = k
    · subst h; simp
    · rw [decide_eq_false (fun e => h e.symm), if_neg h]
  | p :: r, ha => by
    rw [List.any_cons, Bool.or_eq_false_iff] at ha
    have ih := find_snoc (k := k) (x := x) j r ha.2
    rw [List.cons_append, List.find?_cons, List.find?_cons]
    cases hs : sameN p.1 j with
    | false => exact ih
    | true =>
      have : ¬ j = k := fun h => by rw [h] at hs; rw [hs] at ha; cases ha.1
      rw [if_neg this]
theorem find_any {k : L2.Key} : ∀ kvs : List (D × D), (kvs.any fun p => sameN p.1 k) = true → ((kvs.find? fun p => sameN p.1 k)).isSome = true
  | [], h => by cases h
  | p :: r, h => by
    rw [List.find?_cons]
    cases hs : sameN p.1 k with
    | true => rfl
    | false =>
      rw [List.any_cons, hs] at h
      exact find_any r h
theorem DIs.put {kvs : List (D × D)} {f : Int → Option D} (h : DIs kvs f) (k : Int) (x : D) : DIs (putN kvs (.inl k) x) fun i => if i = k then some x else f i := by
  unfold putN
  split
  · rename_i ha
    refine ⟨fun p hp => ?_, fun i => ?_⟩
    · obtain ⟨q, hq, rfl⟩ := List.mem_map.mp hp
      obtain ⟨j, e⟩ := h.key q hq
      refine ⟨j, ?_⟩
      split <;> exact e
    · rw [find_repl]
      by_cases hi : i = k
      · subst hi
        rw [if_pos rfl, if_pos rfl]
        have := find_any kvs ha
        cases e : kvs.find? (fun p => sameN p.1 (.inl i)) with
        | none => rw [e] at this; cases this
        | some q => rfl
      · rw [if_neg (fun e => hi (Sum.inl.inj e)), if_neg hi]
        exact h.get i
  · rename_i ha
    have ha : (kvs.any fun p => sameN p.1 (.inl k)) = false := by simpa using ha
    refine ⟨fun p hp => ?_, fun i => ?_⟩
    · rcases List.mem_append.mp hp with hp | hp
      · exact h.key p hp
      · rw [List.mem_singleton] at hp
        exact ⟨k, by rw [hp]; rfl⟩
    · rw [find_snoc _ _ ha]
      by_cases hi : i = k
      · subst hi; rw [if_pos rfl, if_pos rfl]
      · rw [if_neg (fun e => hi (Sum.inl.inj e)), if_neg hi]
        exact h.get i
theorem putN_len (kvs : List (D × D)) (k : L2.Key) (x : D) : (putN kvs k x).length ≤ kvs.length + 1 := by
  unfold putN
  split
  · rw [List.length_map]; omega
  · simp
theorem DIs.dPut {kvs : List (D × D)} {f : Int → Option D} (h : DIs kvs f) {k : Int} {x : D} {Q : List (D × D) → Prop} (hl : kvs.length < sizeLine) (q : ∀ kvs', DIs kvs' (fun i => if i = k then some x else f i) → kvs'.length ≤ kvs.length + 1 → Q kvs') : Hs.dPut kvs (.int k) x Q := by
  unfold Hs.dPut
  split
  · obtain ⟨j, e⟩ := h.key _ List.mem_cons_self
    cases e
  · obtain ⟨j, e⟩ := h.key _ List.mem_cons_self
    cases e
  · exact ⟨hl, q _ (h.put k x) (putN_len _ _ _)⟩
theorem st_ix2_I {kvs : List (D × D)} {f : Int → Option D} {i : Int} {x : D} {P : R → Prop} (h : DIs kvs f) (e : f i = some x) (q : P (.d x)) : ixD2 (.dict kvs) (.int i) P := .inr ⟨kvs, rfl, h.dGet ⟨x, e, q⟩⟩
theorem st_ninK_I {kvs : List (D × D)} {f : Int → Option D} {i : Int} {P : R → Prop} (h : DIs kvs f) (q : P (.d (.bool (!(f i).isSome)))) : cNotInK (.int i) (.dict kvs) P := .inr ⟨kvs, rfl, h.dGet q⟩
end Hs
namespace Hs
open PySem PySem.Spec PyProof.Rows L2
/-- tuple(xs), kept so that its .index may be called -/
def bTupleN : VN := fun ds Q => match ds with
  | [.list xs] => ∃ ns : List Int, xs = ns.map PyData.int ∧ Q (.d (tfD ns))
  | _ => False
def bLenT : VN := fun ds Q => bLen ds Q ∨ ∃ ns : List Int, ds = [tfD ns] ∧ Q (.d (.int (ns.length : Nat)))
def ixDT : V2 := fun d e Q => ixD2 d e Q ∨ ∃ (ns : List Int) (i z : Int), d = tfD ns ∧ e = .int i ∧ L2.atI ns i = some z ∧ Q (.d (.int z))
def cInT : V2 := fun d e Q => cInK d e Q ∨ ∃ ns : List Int, e = tfD ns ∧ cIn d (.tuple (ns.map PyData.int)) Q
def bIsT (T : String) : V1 := fun d Q => bIs T d Q ∨ ∃ ns : List Int, d = tfD ns ∧ Q (.d (.bool (isTy T (.tuple []))))
def iSeqT (a : FE) : FI := fun X s Q => a X s fun r s1 => frz r s1 fun d s2 => match d with
  | .list xs => Q xs s2
  | .tuple xs => Q xs s2
  | .dict [(.none, .tuple xs)] => Q xs s2
  | _ => False
/-- t.index(x), x in t -/
def fTIx (fo fe : FE) : FE := fun X s Q => fo X s fun r1 s1 => look s1 r1 fun d => ∃ ns : List Int, d = tfD ns ∧ fe X s1 fun r2 s2 => look s2 r2 fun e => ∃ z, e = .int z ∧ z ∈ ns ∧ Q (.d (.int (ns.idxOf z : Nat))) s2
def rTIx (K : PySem.W.Frag) : V → List V → Hp → VK → Prop := fun x xs H Q => ∃ (a : Addr) (ns : List Int) (k : Int), x = .ref a ∧ xs = [.int k] ∧ SqT K H a (ns.map V.int) ∧ k ∈ ns ∧ Q (.int (ns.idxOf k : Nat)) H
section
variable {X : Cx} {L : Lv} {e a b o : Expr} {es : List Expr} {fa fb : FE} {fr : FA} {pos apos p : Pos}
theorem intsAre_of : ∀ {ns : List Int} {us : List Value}, Vals (ns.map V.int) us → IntsAre us ns
  | [], _, .nil => .nil
  | n :: ns, _, .cons r t => by
    obtain ⟨k, rfl⟩ := r
    exact .cons n k (intsAre_of t)
theorem mt_tindex : MtR X "tuple.index" (rTIx X.K) := by
  intro pins s σ H x xs v us Q I rx rxs ⟨a, ns, k, ex, exs, hs, hk, q⟩
  subst ex exs
  cases rx
  cases rxs with
  | cons ry rt =>
    cases rt
    obtain ⟨t, rfl⟩ := ry
    obtain ⟨its, rv, pl, hz⟩ := I.tuple hs
    exact PySem.SeqAt.tuple_index_ints pl (intsAre_of rv) hk ⟨.int (ns.idxOf k : Nat), H, I.tok _, ⟨_, rfl⟩, q⟩
/-- a tuple whose object is known -/
def tyF (x : V) (H : Hp) : Prop := ∃ (p : Addr) (ob : Obj) (xs : List V), x = .ref p ∧ H p = some (.frz ob (.tup xs)) ∧ ob.cls = .type "tuple" ∧ ob.dict = none
theorem tyF_is {pins : List (Addr × Obj)} {σ : St} {H : Hp} {s : Shared} {x : V} {v : Value} (I : Inv X pins σ H s) (r : RelV x v) (ty : tyF x H) :
    s.TypeIs v "tuple" ∧ ∀ a, v = .ref a → ∃ ob, s.heap.get? a = some ob ∧ ob.dict = none := by
  obtain ⟨p, ob, xs, rfl, hp, hc, hd⟩ := ty
  cases r
  obtain ⟨hg, _⟩ := I.hok p _ hp
  refine ⟨⟨ob, hg, hc⟩, fun a e => ?_⟩
  cases e
  exact ⟨ob, hg, hd⟩
def tBMF (r : V → List V → Hp → VK → Prop) (to : TE) (t : TA) : TE := fun σ H Q => to σ H fun x H1 => tyF x H1 ∧ t σ H1 fun xs H2 => r x xs H2 Q
theorem pe_bmF {to : TE} {t : TA} {name : Str} {id : String} {cpos : Pos} {r : V → List V → Hp → VK → Prop} (pa : PlainAttrs "tuple") (slot : Slot "tuple" name id) (hty : typeOf (.builtin id) = pure (.type "method_descriptor")) (hm : MtR X id r) (ho : PE X o to) (ha : PA X (e :: es) t)
    (hbase : attributeBase o name X.env (eval o X.env) = eval o X.env := by rfl)
    (hfew : ((backTo cpos (starEach (e :: es) X.env)).all (fun x => !x.1) && (backToKw cpos (keywordEach [] X.env)).all (fun x => x.1.isSome)
      && decide ((e :: es).length + ([] : List Keyword).length + (if ([] : List Keyword).isEmpty then 0 else 1) < 30)) = true := by rfl)
    (hline : (apos.endLine == cpos.line) = true := by rfl) (hs : starEach (e :: es) X.env = (false, eval e X.env) :: starEach es X.env := by rfl) (hplain : (backTo cpos (starEach es X.env)).any (·.1) = false := by rfl) :
    PE X (.Call (.Attribute o name apos) (e :: es) [] cpos) (tBMF r to t) := by
  refine ⟨fun pins s σ H Q I h => ?_⟩
  refine wpAny_Call_method_late hbase hfew hline rfl (thn (ho.run pins s σ H _ I h) fun v s1 ⟨x, H1, I1, r1, ty, q1⟩ => ?_)
  obtain ⟨h1, h2⟩ := tyF_is I1 r1 ty
  refine ⟨"tuple", id, pa, slot, hty, h1, h2, ?_⟩
  have hA := ha.run cpos pins s1 σ H1 _ I1 q1
  rw [hs] at hA ⊢
  refine Calls.callWith_builtin (by show (false || (backTo cpos (starEach es X.env)).any (·.1)) = false; rw [hplain] <;> rfl) (Calls.evalArgs_plain ?_)
  exact thn hA fun us s2 ⟨vs, H2, I2, r2, q2⟩ => hm pins s2 σ H2 x vs v us Q I2 r1 r2 q2
theorem ints_inj : ∀ {ns ms : List Int}, ns.map PyData.int = ms.map PyData.int → ns = ms
  | [], [], _ => rfl
  | [], _ :: _, h => nomatch h
  | _ :: _, [], h => nomatch h
  | n :: ns, m :: ms, h => by
    injection h with h1 h2
    injection h1 with h1
    rw [h1, ints_inj h2]
theorem RpV.tfZ {K : PySem.W.Frag} {Z H : Hp} {v : V} {xs : List D} (r : RpV K Z H v (.dict [(.none, .tuple xs)])) : ∃ (p : Addr) (ob : Obj) (ns : List Int), v = .ref p ∧ xs = ns.map PyData.int ∧ Z p = some (.frz ob (.tup (ns.map V.int))) ∧ ob.cls = .type "tuple" ∧ ob.dict = none ∧ ns.length ≤ sizeLine := by
  rcases r with r | ⟨p, vs, xs', rfl, e2, h, z, a⟩ | ⟨p, kvs, rfl, e2, h⟩
  · generalize e0 : (PyData.dict [(.none, .tuple xs)]) = d at r
    cases r with
    | lit h z =>
      unfold litD at e0
      injection e0 with e1
      injection e1 with e2 _
      injection e2 with _ e3
      cases e3
    | exc h =>
      unfold excD at e0
      injection e0 with e1
      injection e1 with e2 _
      injection e2 with _ e3
      cases e3
    | tf h c d z =>
      unfold tfD at e0
      injection e0 with e1
      injection e1 with e2 _
      injection e2 with _ e3
      injection e3 with e4
      exact ⟨_, _, _, rfl, e4, h, c, d, z⟩
    | dcK h a => cases e0; exact a.nolit.elim
    | dcT h a => cases e0
    | obj h1 h2 a => cases e0
    | _ => cases e0
  · cases e2
  · cases e2
    rcases h with ⟨ks, e1, r⟩ | ⟨ks, kvs', e0, e1, r⟩
    · exact r.nolit.elim
    · cases e0
theorem RpV.tfN {K : PySem.W.Frag} {Z H : Hp} {v : V} {ns : List Int} (r : RpV K Z H v (tfD ns)) (e : Same Z H) : ∃ (p : Addr) (ob : Obj), v = .ref p ∧ H p = some (.frz ob (.tup (ns.map V.int))) ∧ ob.cls = .type "tuple" ∧ ob.dict = none ∧ ns.length ≤ sizeLine := by
  obtain ⟨p, ob, ms, e1, e2, h1, h2, h3, h4⟩ := RpV.tf (xs := ns.map PyData.int) r e
  obtain rfl := ints_inj e2
  exact ⟨p, ob, e1, h1, h2, h3, h4⟩
theorem sqF {K : PySem.W.Frag} {H : Hp} {p : Addr} {ob : Obj} {xs : List V} (h : H p = some (.frz ob (.tup xs))) : SqT K H p xs := .inl (.inr ⟨ob, h⟩)
theorem NewR.tf {K : PySem.W.Frag} {Z H : Hp} {p : Addr} {ob : Obj} {ns : List Int} (e : Same Z H) (hp : H p = none) (z : ns.length ≤ sizeLine) (hc : ob.cls = .type "tuple") (hd : ob.dict = none) : NewR K Z H (upd Z p (.frz ob (.tup (ns.map V.int)))) (upd H p (.frz ob (.tup (ns.map V.int)))) (.ref p) (.d (tfD ns)) :=
  have zp : Z p = none := e.free hp
  ⟨same_upd hp, same_upd zp, fun b x q => by
    by_cases hb : b = p
    · subst hb; rw [upd_same] at q ⊢; exact q
    · rw [upd_ne hb] at q ⊢; exact e b x q, fun a ha => upd_ne fun z => ha (z ▸ hp), .tf upd_same hc hd z⟩
theorem fb_tupleN : CallR X (.type "tuple") (rFN X.K bTupleN) := by
  intro pins s σ H vs us Q I rv ⟨Z, ds, Qf, hz, rr, g, q⟩
  unfold bTupleN at g
  split at g
  · obtain ⟨v, rfl, r1⟩ := rr.one
    obtain ⟨ns, rfl, g⟩ := g
    obtain ⟨p, ws, rfl, h1, h2, h3⟩ := r1.list hz
    obtain rfl := h3.ints
    obtain ⟨u, rfl, rx⟩ := vals1 rv
    cases rx
    obtain ⟨its, r', pl, hl⟩ := I.list (.inl h1)
    have hlen := r'.length
    refine call_tuple_list pl.isList (fun h' kp => ?_) (by simp only [List.size_toArray] <;> omega)
    have I1 : Inv X pins σ H { s with heap := h' } := I.kept (t' := s.toks) kp
    have hn := I1.hok.fresh (Nat.le_refl h'.objs.size)
    have hg : (h'.push { cls := .type "tuple", data := .seq its.toArray }).get? h'.objs.size = some { cls := .type "tuple", data := .seq its.toArray } := (IsTup.new h' its.toArray).elim fun o ho => by
      simp [Heap.get?, Heap.push]
    have I2 := I1.laid (t' := s.toks) (o := .frz { cls := .type "tuple", data := .seq its.toArray } (.tup (ns.map V.int))) (h' := h'.push { cls := .type "tuple", data := .seq its.toArray }) (fun b o e => Heap.get?_push_of_some _ e) (Nat.le_refl _) ⟨hg, hl, its, r', IsTup.new _ _⟩
    exact ⟨.ref h'.objs.size, _, I2, rfl, q _ _ _ _ (NewR.tf hz hn (by rw [List.length_map] at hl; exact hl) rfl rfl) g⟩
  · exact g.elim
theorem fb_lenT : CallR X (.builtin "len") (rFN X.K bLenT) := by
  intro pins s σ H vs us Q I rv ⟨Z, ds, Qf, hz, rr, g, q⟩
  rcases g with g | ⟨ns, rfl, g⟩
  · exact fb_len pins s σ H vs us Q I rv ⟨Z, ds, Qf, hz, rr, g, q⟩
  · obtain ⟨v, rfl, r1⟩ := rr.one
    obtain ⟨p, ob, rfl, h1, _, _, h2⟩ := r1.tfN hz
    exact call_len pins s σ H _ us Q I rv ⟨_, _, rfl, .inr ⟨_, sqF h1, rfl⟩, by rw [List.length_map]; exact q _ H Z _ (.d hz (.int _)) g⟩
theorem fix_dT (hu : X.A.units + 1 < cLine) : IxR X (rF2 X.K ixDT) := by
  intro value slice pins s σ H x y v u Q I rx ry ⟨Z, d, e, Qf, hz, hd, he, g, q⟩ hpl
  rcases g with g | ⟨ns, i, z, rfl, rfl, hi, g⟩
  · exact fix_d2 hu value slice pins s σ H x y v u Q I rx ry ⟨Z, d, e, Qf, hz, hd, he, g, q⟩ hpl
  · obtain ⟨p, ob, rfl, h1, _, _, h2⟩ := hd.tfN hz
    cases he.int
    have hi2 : L2.atI (ns.map PyData.int) i = some (.int z) := by
      unfold L2.atI at hi ⊢
      rw [List.length_map]
      cases e : L2.ixN ns.length i with
      | none => rw [e] at hi; cases hi
      | some j =>
        rw [e] at hi
        have hi : ns[j]? = some z := hi
        show (ns.map PyData.int)[j]? = _
        rw [List.getElem?_map, hi]
        rfl
    obtain ⟨w, hw, rz⟩ := RpAll.atI (RpAll.of_ints (K := X.K) (H := Z) ns) hi2
    exact ix_tup value slice pins s σ H _ _ v u Q I rx ry ⟨p, _, _, w, rfl, rfl, sqF h1, hw, q _ H Z _ (.d hz rz) g⟩ hpl
theorem fop_inT (hu : X.A.units + 65 < cLine) : OpR X (compareOp .In) (rF2 X.K cInT) := by
  intro pins s σ H x y v u Q I rx ry ⟨Z, d, e, Qf, hz, hd, he, g, q⟩
  rcases g with g | ⟨ns, rfl, g⟩
  · exact fop_inK hu pins s σ H x y v u Q I rx ry ⟨Z, d, e, Qf, hz, hd, he, g, q⟩
  · obtain ⟨p, ob, rfl, h1, _, _, h2⟩ := he.tfN hz
    have dt : Dp X.K H (.ref p) (.tuple (ns.map PyData.int)) := .tup (sqF h1) (RpV.dpU.dpInts ns)
    obtain ⟨as, r1⟩ := Dp.reads I d x v (hd.dp hz g.1) rx
    obtain ⟨bs, r2⟩ := Dp.reads I _ _ u dt ry
    exact SeqAt.in_tuple_reads r2 r1 (by have := SeqAt.canLay_of_shaped g.2.1; simpa [PyData.canLay0] using this) (SeqAt.canLay_of_shaped g.1) (room_in_shaped g.1 hu) ⟨.bl _, H, I, rfl, q _ H Z _ (.d hz (.bl _)) g.2.2⟩
theorem pfi_seqT {tg : Expr} (he : PF X L e fa) : PFI X L tg e (iSeqT fa) := PI_imp (pi_sq he) fun σ H R ⟨Z, Y, s, Xf, Qf, r, k, xo, h, q⟩ => by
  refine ⟨Z, Y, s, Xf, _, r, k, xo, h, fun v H1 Z1 r1 s1 hz rx h1 => ?_⟩
  obtain ⟨Z2, d, s2, hz2, rx2, h2⟩ := frz_ok (us := []) (ds := []) (vs := []) (rs := []) rx rfl h1
  have rv := rx2.vd
  cases rv with
  | lst hs hl ra => exact ⟨_, rfl, .inl ⟨⟨_, .inl (same_rd rx2.rel0.zh hs)⟩, q _ H1 Z2 s2 _ (hz.trans hz2) rx2.rel0 (walks_list (.inl hs) ra) h2⟩⟩
  | tup hs hl ra => exact ⟨_, rfl, .inr ⟨⟨_, tupSq (rx2.rel0.zh _ _ hs)⟩, q _ H1 Z2 s2 _ (hz.trans hz2) rx2.rel0 (walks_tup (tupSq hs) ra) h2⟩⟩
  | tf hs hc hd hl => exact ⟨_, rfl, .inr ⟨⟨_, sqF (rx2.rel0.zh _ _ hs)⟩, q _ H1 Z2 s2 _ (hz.trans hz2) rx2.rel0 (walks_tup (sqF hs) (RpAll.of_ints _)) h2⟩⟩
  | dcK hs ra =>
    exfalso
    revert h2
    split
    · rename_i e; cases e
    · rename_i e; cases e
    · rename_i e; intro _; injection e with e; subst e; exact ra.nolit.elim
    · exact fun h => h
  | dcT hs ra =>
    exfalso
    revert h2
    split
    · rename_i e; cases e
    · rename_i e; cases e
    · rename_i e; intro _; cases e
    · exact fun h => h
  | obj h3 h4 ra =>
    exfalso
    revert h2
    split
    · rename_i e; cases e
    · rename_i e; cases e
    · rename_i e; intro _; cases e
    · exact fun h => h
  | lit h3 h4 => exact h2.elim
  | exc h3 => exact h2.elim
  | _ => exact h2.elim
theorem pf_isinstT {T : String} {tx : Str} {p2 : Pos} (hT : AskTy T) (ha : PF X L a fa) (hm : X.mg "isinstance" = none) (hmT : X.mg tx = none) (hbT : bootBuiltins tx = some (.type T)) (hg : Gl X "isinstance" := by rfl) (hgT : Gl X tx := by rfl)
    (hnT : tx ≠ "__name__" := by decide) (hdT : (tx == ("__debug__" : Str)) = false := by decide) (he : starEach [a, .Name tx p2] X.env = (false, eval a X.env) :: starEach [.Name tx p2] X.env := by rfl) (he2 : starEach [.Name tx p2] X.env = (false, eval (.Name tx p2) X.env) :: starEach [] X.env := by rfl)
    (hpl : (backTo pos (starEach [.Name tx p2] X.env)).any (·.1) = false := by rfl) : PF X L (.Call (.Name "isinstance" p) [a, .Name tx p2] [] pos) (fUn (bIsT T) fa) :=
  PE_imp (pe_callB call_isi hg hm (by decide +kernel) (pa_cons ha (pa_cons (pe_bltn (v := .ty T) hgT hmT hbT rfl hnT hdT) pa_nil he2) he) (by decide) (by decide) he hpl) fun σ H Q ⟨Z, Y, s, Xf, Qf, r, k, xo, h, q⟩ => by
  refine ⟨Z, Y, s, Xf, _, r, k, xo, h, fun v H1 Z1 r1 s1 hz rx h1 => ?_⟩
  obtain ⟨d, e1, h3⟩ := look_ok h1
  obtain ⟨v', ev, rv⟩ := rx.look (k := 0) rfl e1
  cases ev
  rcases h3 with h3 | ⟨ns, rfl, h3⟩
  · exact ⟨v, .ty T, _, .type T, _, rfl, .ty T, tyX_of (rv.rp rx.rel0.zh) h3.1, kit_is hT d, q _ H1 Z1 _ s1 hz (.d rx.rel0 (.bl _)) h3.2⟩
  · obtain ⟨p, ob, rfl, h1, _, _, h2⟩ := rv.tfN rx.rel0.zh
    exact ⟨_, .ty T, _, .type T, _, rfl, .ty T, TyX.fTuple h1, kit_is hT (.tuple []), q _ H1 Z1 _ s1 hz (.d rx.rel0 (.bl _)) h3⟩
theorem pf_tindex (ho : PF X L o fa) (he : PF X L e fb)
    (hbase : attributeBase o "index" X.env (eval o X.env) = eval o X.env := by rfl)
    (hfew : ((backTo pos (starEach [e] X.env)).all (fun x => !x.1) && (backToKw pos (keywordEach [] X.env)).all (fun x => x.1.isSome)
      && decide ([e].length + ([] : List Keyword).length + (if ([] : List Keyword).isEmpty then 0 else 1) < 30)) = true := by rfl)
    (hline : (apos.endLine == pos.line) = true := by rfl) (hs : starEach [e] X.env = (false, eval e X.env) :: starEach [] X.env := by rfl) :
    PF X L (.Call (.Attribute o "index" apos) [e] [] pos) (fTIx fa fb) :=
  PE_imp (pe_bmF PySem.F.plainAttrs_tuple PySem.F.slot_tuple_index PySem.F.type_tuple_index mt_tindex ho (pa_cons he pa_nil hs) hbase hfew hline hs rfl) fun σ H Q ⟨Z, Y, s, Xf, Qf, r, k, xo, h, q⟩ => by
  refine ⟨Z, Y, s, Xf, _, r, k, xo, h, fun v H1 Z1 r1 s1 hz rx h1 => ?_⟩
  obtain ⟨d, e1, ns, rfl, h2⟩ := look_ok h1
  obtain ⟨v', ev, rv⟩ := rx.look (k := 0) rfl e1
  cases ev
  have rp := rv.rp rx.rel0.zh
  obtain ⟨p, ob, ms, rfl, em, hpZ, hc, hd, hl⟩ := RpV.tfZ (xs := ns.map PyData.int) rv
  obtain rfl := ints_inj em
  refine ⟨⟨p, ob, _, rfl, rx.rel0.zh _ _ hpZ, hc, hd⟩, ?_⟩
  obtain ⟨Y', hy, rl, bk, fw⟩ := rx.frame
  refine ⟨Z1, Y', s1, Xf, _, rl, k, (xo.z hz).mono (Same.refl _) bk, h2, fun w H2 Z2 r2 s2 hz2 rx2 h3 => ?_⟩
  have rx3 := fw Z2 H2 s2 [w] [r2] hz2 rx2
  obtain ⟨e, e2, z, rfl, hz', h4⟩ := look_ok h3
  obtain ⟨w', ew, rw'⟩ := rx3.look (k := 1) rfl e2
  cases ew
  cases rw'.int
  exact ⟨p, ns, z, rfl, rfl, sqF (rx3.rel0.zh _ _ (hz2 _ _ hpZ)), hz', q _ H2 Z2 _ s2 (hz.trans hz2) (.d rx3.rel0 (.int _)) h4⟩
end
end Hs
namespace Lk18
open PySem PySem.Spec PyProof.Rows L2 Hs
def b__law_b_stirred : FS := fSeq (fIfS (fB (fOp cGe (fVar 0) (fC (.int 1000000000000000000)))) (fRet (fVar 0)) (fNext))
    (fSeq (fAsg 2 (fOp opMod (fOp opAdd (fOp opAdd (fOp opMul (fOp opMod (fVar 0) (fC (.int 2147483629))) (fC (.int 39373))) (fOp opMul (fVar 1) (fC (.int 7919)))) (fC (.int 271))) (fC (.int 2147483587))))
    (fSeq (fAsg 3 (fOp opMod (fOp opAdd (fOp opAdd (fOp opMul (fVar 2) (fVar 2)) (fOp opMul (fC (.int 613)) (fVar 1))) (fC (.int 89))) (fC (.int 2147483579))))
    (fSeq (fAsg 4 (fOp opMod (fOp opAdd (fOp opAdd (fOp opMul (fVar 3) (fVar 3)) (fOp opMul (fC (.int 1021)) (fVar 2))) (fVar 1)) (fC (.int 2147483563))))
    (fRet (fOp opAdd (fOp opMul (fVar 3) (fC (.int 2147483563))) (fVar 4))))))
def m__law_b_stirred : FSem := semOf 2 5 b__law_b_stirred
def b__law_b_digit : FS := fSeq (fIfS (fB (fOp cLt (fOp ixD2 (fVar 0) (fC (.int 2))) (fVar 1))) (fSeq (fAsg 2 (fOp ixD2 (fVar 0) (fC (.int 1))))
    (fSeq (fAsg 3 (fOp opAdd (fOp opMul (fC (.int 5)) (fVar 2)) (fC (.int 2))))
    (fSeq (fIfS (fB (fOp cLt (fVar 2) (fBlt bLen (fCons (fOp ixD2 (fVar 0) (fC (.int 0))) (fNil))))) (fAsg 3 (fOp ixD2 (fOp ixD2 (fVar 0) (fC (.int 0))) (fVar 2))) (fIfS (fB (fOp cNe (fOp ixD2 (fVar 0) (fC (.int 0))) (fLst (fNil)))) (fAsg 3 (fOp opAdd (fOp opMod (fOp ixD2 (fOp ixD2 (fVar 0) (fC (.int 0))) (fOp opMod (fOp opMul (fVar 2) (fC (.int 3))) (fBlt bLen (fCons (fOp ixD2 (fVar 0) (fC (.int 0))) (fNil))))) (fC (.int 999999883))) (fOp opMul (fVar 2) (fC (.int 2000003))))) (fNext)))
    (fSeq (fSetIx 0 (fC (.int 1)) (fOp opAdd (fVar 2) (fC (.int 1))))
    (fSetIx 0 (fC (.int 2)) (fCall m__law_b_stirred [false, false] (fCons (fVar 3) (fCons (fVar 2) (fNil))))))))) (fNext))
    (fSeq (fAsg 4 (fOp opMod (fOp ixD2 (fVar 0) (fC (.int 2))) (fVar 1)))
    (fSeq (fSetIx 0 (fC (.int 2)) (fOp opFdiv (fOp ixD2 (fVar 0) (fC (.int 2))) (fVar 1)))
    (fRet (fVar 4))))
def m__law_b_digit : FSem := semOf 2 5 b__law_b_digit
def b__law_b_pairs : FS := fSeq (fIfS (fB (fOp cEq (fVar 2) (fC (.int 3)))) (fRet (fOp opAdd (fLc (iRange1 (fCons (fOp opSub (fVar 1) (fC (.int 1))) (fNil))) (gNm 3) [3] (fYes) (fTup (fCons (fVar 3) (fCons (fOp opAdd (fVar 3) (fC (.int 1))) (fNil))))) (fOp opMul (fLst (fCons (fTup (fCons (fC (.int 0)) (fCons (fOp opSub (fVar 1) (fC (.int 1))) (fNil)))) (fNil))) (fBlt bInt (fCons (fOp cGt (fVar 1) (fC (.int 2))) (fNil)))))) (fNext))
    (fSeq (fAsg 4 (fLst (fNil)))
    (fSeq (fAsg 5 (fCall m__law_b_digit [true, false] (fCons (fVar 0) (fCons (fC (.int 4)) (fNil)))))
    (fSeq (fAsg 6 (fLst (fCons (fLst (fNil)) (fNil))))
    (fSeq (fFor (iRange1 (fCons (fVar 1) (fNil))) (gNm 7) [7, 8, 9, 10] (fSeq (fAsg 8 (fOp ixD2 (fVar 6) (fCall m__law_b_digit [true, false] (fCons (fVar 0) (fCons (fBlt bLen (fCons (fVar 6) (fNil))) (fNil))))))
    (fSeq (fAsg 9 (fLc (iSeq (fVar 8)) (gNm 10) [10] (fB (fOp cGt (fCall m__law_b_digit [true, false] (fCons (fVar 0) (fCons (fC (.int 3)) (fNil)))) (fC (.int 0)))) (fVar 10)))
    (fSeq (fDrop (fLm 6 mAppend (fCons (fOp opAdd (fVar 9) (fLst (fCons (fVar 7) (fNil)))) (fNil))))
    (fSeq (fIfS (fB (fOp cLt (fVar 2) (fC (.int 3)))) (fAsg 9 (fLc (iRange1 (fCons (fVar 7) (fNil))) (gNm 10) [10] (fB (fOp cLt (fCall m__law_b_digit [true, false] (fCons (fVar 0) (fCons (fC (.int 4)) (fNil)))) (fOp opAdd (fVar 2) (fC (.int 1))))) (fVar 10))) (fNext))
    (fSeq (fIfS (fB (fOp cEq (fVar 2) (fC (.int 5)))) (fAsg 9 (fLc (iRange1 (fCons (fVar 7) (fNil))) (gNm 10) [10] (fB (fOp cLe (fOp opSub (fVar 7) (fVar 10)) (fVar 5))) (fVar 10))) (fNext))
    (fAsg 4 (fOp opAdd (fVar 4) (fLc (iSeq (fVar 9)) (gNm 10) [10] (fYes) (fTup (fCons (fVar 10) (fCons (fVar 7) (fNil)))))))))))))
    (fRet (fVar 4))))))
def m__law_b_pairs : FSem := semOf 3 11 b__law_b_pairs
def b__law_b_web : FS := fSeq (fAsg 2 (fCall m__law_b_digit [true, false] (fCons (fVar 0) (fCons (fOp opAdd (fVar 1) (fC (.int 1))) (fNil)))))
    (fSeq (fAsg 3 (fLst (fNil)))
    (fSeq (fFor (iRange1 (fCons (fVar 2) (fNil))) (gNm 4) [4] (fDrop (fLm 3 mInsert (fCons (fCall m__law_b_digit [true, false] (fCons (fVar 0) (fCons (fOp opAdd (fVar 4) (fC (.int 1))) (fNil)))) (fCons (fVar 4) (fNil))))))
    (fSeq (fAsg 5 (fLst (fNil)))
    (fSeq (fFor (iSeq (fCall m__law_b_pairs [true, false, false] (fCons (fVar 0) (fCons (fVar 2) (fCons (fCall m__law_b_digit [true, false] (fCons (fVar 0) (fCons (fC (.int 6)) (fNil)))) (fNil)))))) (gTp [gNm 6, gNm 7]) [6, 7] (fDrop (fLm 5 mAppend (fCons (fTup (fCons (fBlt bMin2 (fCons (fOp ixD2 (fVar 3) (fVar 6)) (fCons (fOp ixD2 (fVar 3) (fVar 7)) (fNil)))) (fCons (fBlt bMax2 (fCons (fOp ixD2 (fVar 3) (fVar 6)) (fCons (fOp ixD2 (fVar 3) (fVar 7)) (fNil)))) (fNil)))) (fNil)))))
    (fRet (fTup (fCons (fVar 2) (fCons (fBlt bTuple (fCons (fBlt bSorted (fCons (fVar 5) (fNil))) (fNil))) (fNil)))))))))
def m__law_b_web : FSem := semOf 2 8 b__law_b_web
def b_is_whole : FS := fRet (fAndV (fUn (bIs "int") (fVar 0)) (fNotV (fUn (bIs "bool") (fVar 0))))
def m_is_whole : FSem := semOf 1 1 b_is_whole
def b_is_below : FS := fRet (fAndV (fCall m_is_whole [false] (fCons (fVar 0) (fNil))) (fChain cLe cLt (fC (.int 0)) (fVar 0) (fVar 1)))
def m_is_below : FSem := semOf 2 2 b_is_below
def b_is_rising : FS := fRet (fBlt bAll (fCons (fLc (iRange1 (fCons (fOp opSub (fBlt bLenT (fCons (fVar 0) (fNil))) (fC (.int 1))) (fNil))) (gNm 1) [1] (fYes) (fOp cLt (fOp ixDT (fVar 0) (fVar 1)) (fOp ixDT (fVar 0) (fOp opAdd (fVar 1) (fC (.int 1)))))) (fNil)))
def m_is_rising : FSem := semOf 1 2 b_is_rising
def b_is_tie : FS := fSeq (fIfS (fOr (fNot (fB (fUn (bIs "tuple") (fVar 1)))) (fB (fOp cNe (fBlt bLen (fCons (fVar 1) (fNil))) (fC (.int 2))))) (fRet (fC (.bool false))) (fNext))
    (fRet (fAndV (fCall m_is_below [false, false] (fCons (fOp ixD2 (fVar 1) (fC (.int 0))) (fCons (fVar 0) (fNil)))) (fAndV (fCall m_is_below [false, false] (fCons (fOp ixD2 (fVar 1) (fC (.int 1))) (fCons (fVar 0) (fNil)))) (fOp cLt (fOp ixD2 (fVar 1) (fC (.int 0))) (fOp ixD2 (fVar 1) (fC (.int 1)))))))
def m_is_tie : FSem := semOf 2 2 b_is_tie
def b_are_ties : FS := fSeq (fIfS (fOr (fNot (fB (fUn (bIs "tuple") (fVar 1)))) (fNot (fB (fBlt bAll (fCons (fLc (iSeq (fVar 1)) (gNm 2) [2] (fYes) (fCall m_is_tie [false, false] (fCons (fVar 0) (fCons (fVar 2) (fNil))))) (fNil)))))) (fRet (fC (.bool false))) (fNext))
    (fRet (fCall m_is_rising [false] (fCons (fVar 1) (fNil))))
def m_are_ties : FSem := semOf 2 3 b_are_ties
def b_is_web : FS := fSeq (fIfS (fOr (fNot (fB (fUn (bIs "tuple") (fVar 0)))) (fB (fOp cNe (fBlt bLen (fCons (fVar 0) (fNil))) (fC (.int 2))))) (fRet (fC (.bool false))) (fNext))
    (fRet (fAndV (fCall m_is_below [false, false] (fCons (fOp ixD2 (fVar 0) (fC (.int 0))) (fCons (fOp opAdd (fC (.int 10)) (fC (.int 1))) (fNil)))) (fCall m_are_ties [false, false] (fCons (fOp ixD2 (fVar 0) (fC (.int 0))) (fCons (fOp ixD2 (fVar 0) (fC (.int 1))) (fNil))))))
def m_is_web : FSem := semOf 1 1 b_is_web
def b_need_web : FS := fIfS (fNot (fB (fCall m_is_web [false] (fCons (fVar 0) (fNil))))) (fRaise "NoWeb") (fNext)
def m_need_web : FSem := semOf 1 1 b_need_web
def b_all_places : FS := fRet (fRg1 mkT (fOp ixD2 (fVar 0) (fC (.int 0))))
def m_all_places : FSem := semOf 1 1 b_all_places
def b_rows_of : FS := fSeq (fAsg 1 (fLcL (iSeq (fCall m_all_places [false] (fCons (fVar 0) (fNil)))) (gNm 2) [2] (fYes) (fOp opMul (fLst (fCons (fC (.bool false)) (fNil))) (fOp ixD2 (fVar 0) (fC (.int 0))))))
    (fSeq (fFor (iSeq (fOp ixD2 (fVar 0) (fC (.int 1)))) (gTp [gNm 3, gNm 4]) [3, 4] (fSeq (fSetLL 1 3 4 (fC (.bool true)))
    (fSetLL 1 4 3 (fC (.bool true)))))
    (fRet (fVar 1)))
def m_rows_of : FSem := semOf 1 5 b_rows_of
def b_all_tied : FS := fSeq (fFor (iEnumL (fCons (fVar 1) fNil)) (gTp [gNm 2, gNm 3]) [2, 3, 4] (fIfS (fNot (fB (fBlt bAll (fCons (fLc (iSeq (fSl slD (fVar 1) (fPart (fOp opAdd (fVar 2) (fC (.int 1)))) (fNoPart))) (gNm 4) [4] (fYes) (fOp ixD2 (fOp ixD2 (fVar 0) (fVar 3)) (fVar 4))) (fNil))))) (fRet (fC (.bool false))) (fNext)))
    (fRet (fC (.bool true)))
def m_all_tied : FSem := semOf 2 5 b_all_tied
def b_nears_among : FS := fRet (fLc (iSeq (fVar 1)) (gNm 3) [3] (fB (fOp ixD2 (fOp ixD2 (fVar 0) (fVar 2)) (fVar 3))) (fVar 3))
def m_nears_among : FSem := semOf 3 4 b_nears_among
def b_foldable : FS := fSeq (fFor (iSeq (fVar 1)) (gNm 2) [2] (fIfS (fB (fCall m_all_tied [false, false] (fCons (fVar 0) (fCons (fCall m_nears_among [false, false, false] (fCons (fVar 0) (fCons (fVar 1) (fCons (fVar 2) (fNil))))) (fNil))))) (fRet (fVar 2)) (fNext)))
    (fRet (fC .none))
def m_foldable : FSem := semOf 2 3 b_foldable
def b_folded : FS := fSeq (fAsg 2 (fLst (fNil)))
    (fSeq (fAsg 3 (fCall m_foldable [false, false] (fCons (fVar 0) (fCons (fVar 1) (fNil)))))
    (fSeq (fWhile [4] (fB (fOp cIsNot (fVar 3) (fC .none))) (fSeq (fDrop (fLm 2 mAppend (fCons (fVar 3) (fNil))))
    (fSeq (fAsg 1 (fLc (iSeq (fVar 1)) (gNm 4) [4] (fB (fOp cNe (fVar 4) (fVar 3))) (fVar 4)))
    (fAsg 3 (fCall m_foldable [false, false] (fCons (fVar 0) (fCons (fVar 1) (fNil))))))))
    (fRet (fTup (fCons (fVar 2) (fCons (fVar 1) (fNil)))))))
def m_folded : FSem := semOf 2 5 b_folded
def b_walked_back : FS := fSeq (fAsg 2 (fLst (fCons (fVar 1) (fNil))))
    (fSeq (fWhile [] (fB (fOp cIsNot (fOp ixD2 (fVar 0) (fOp ixD2 (fVar 2) (fUn uNeg (fC (.int 1))))) (fC .none))) (fDrop (fLm 2 mAppend (fCons (fOp ixD2 (fVar 0) (fOp ixD2 (fVar 2) (fUn uNeg (fC (.int 1))))) (fNil)))))
    (fRet (fUn revD (fVar 2))))
def m_walked_back : FSem := semOf 2 3 b_walked_back
def b_shortest_walk : FS := fSeq (fAsg 4 (fDisp1 (fVar 2) (fC .none)))
    (fSeq (fAsg 5 (fLst (fCons (fVar 2) (fNil))))
    (fSeq (fWhile [6, 7, 8] (fAnd (fB (fOp cNe (fVar 5) (fLst (fNil)))) (fB (fOp cNotInK (fVar 3) (fVar 4)))) (fSeq (fAsg 6 (fLst (fNil)))
    (fSeq (fFor (iSeq (fVar 5)) (gNm 7) [7, 8] (fFor (iSeq (fCall m_nears_among [false, false, false] (fCons (fVar 0) (fCons (fOp opAdd (fVar 1) (fLst (fCons (fVar 3) (fNil)))) (fCons (fVar 7) (fNil)))))) (gNm 8) [8] (fIfS (fB (fOp cNotInK (fVar 8) (fVar 4))) (fSeq (fSetD 4 (fVar 8) (fVar 7))
    (fDrop (fLm 6 mAppend (fCons (fVar 8) (fNil))))) (fNext))))
    (fAsg 5 (fVar 6)))))
    (fSeq (fIfS (fB (fOp cNotInK (fVar 3) (fVar 4))) (fRet (fC .none)) (fNext))
    (fRet (fCall m_walked_back [true, false] (fCons (fVar 4) (fCons (fVar 3) (fNil))))))))
def m_shortest_walk : FSem := semOf 4 9 b_shortest_walk
def b_ring_at : FS := fSeq (fAsg 3 (fCall m_nears_among [false, false, false] (fCons (fVar 0) (fCons (fVar 1) (fCons (fVar 2) (fNil))))))
    (fSeq (fAsg 4 (fLc (iSeq (fVar 1)) (gNm 5) [5] (fAnd (fB (fOp cNe (fVar 5) (fVar 2))) (fNot (fB (fOp ixD2 (fOp ixD2 (fVar 0) (fVar 2)) (fVar 5))))) (fVar 5)))
    (fSeq (fFor (iEnumL (fCons (fVar 3) fNil)) (gTp [gNm 6, gNm 7]) [6, 7, 8, 9] (fFor (iSeq (fSl slD (fVar 3) (fPart (fOp opAdd (fVar 6) (fC (.int 1)))) (fNoPart))) (gNm 8) [8, 9] (fIfS (fNot (fB (fOp ixD2 (fOp ixD2 (fVar 0) (fVar 7)) (fVar 8)))) (fSeq (fAsg 9 (fCall m_shortest_walk [false, false, false, false] (fCons (fVar 0) (fCons (fVar 4) (fCons (fVar 7) (fCons (fVar 8) (fNil)))))))
    (fIfS (fB (fOp cIsNot (fVar 9) (fC .none))) (fRet (fOp opAdd (fLst (fCons (fVar 2) (fNil))) (fVar 9))) (fNext))) (fNext))))
    (fRet (fC .none))))
def m_ring_at : FSem := semOf 3 10 b_ring_at
def b_ring_among : FS := fSeq (fFor (iSeq (fVar 1)) (gNm 2) [2, 3] (fSeq (fAsg 3 (fCall m_ring_at [false, false, false] (fCons (fVar 0) (fCons (fVar 1) (fCons (fVar 2) (fNil))))))
    (fIfS (fB (fOp cIsNot (fVar 3) (fC .none))) (fRet (fVar 3)) (fNext))))
    (fRet (fLst (fNil)))
def m_ring_among : FSem := semOf 2 4 b_ring_among
def b_fold_in : FS := fSeq (fAsg 1 (fCall m_rows_of [false] (fCons (fVar 0) (fNil))))
    (fSeq (fUnp (gTp [gNm 2, gNm 3]) (fCall m_folded [false, false] (fCons (fVar 1) (fCons (fBlt bList (fCons (fCall m_all_places [false] (fCons (fVar 0) (fNil))) (fNil))) (fNil)))))
    (fSeq (fIfS (fB (fOp cEq (fVar 3) (fLst (fNil)))) (fRet (fTup (fCons (fC (.str "fold")) (fCons (fBlt bTuple (fCons (fVar 2) (fNil))) (fNil))))) (fNext))
    (fRet (fTup (fCons (fC (.str "ring")) (fCons (fCall m_ring_among [false, false] (fCons (fVar 1) (fCons (fVar 3) (fNil)))) (fNil)))))))
def m_fold_in : FSem := semOf 1 4 b_fold_in
def b_fold : FS := fSeq (fDrop (fCall m_need_web [false] (fCons (fVar 0) (fNil))))
    (fRet (fCall m_fold_in [false] (fCons (fVar 0) (fNil))))
def m_fold : FSem := semOf 1 1 b_fold
def b_is_set : FS := fSeq (fIfS (fOr (fNot (fB (fUn (bIsT "tuple") (fVar 1)))) (fNot (fB (fBlt bAll (fCons (fLc (iSeqT (fVar 1)) (gNm 2) [2] (fYes) (fCall m_is_below [false, false] (fCons (fVar 2) (fCons (fOp ixD2 (fVar 0) (fC (.int 0))) (fNil))))) (fNil)))))) (fRet (fC (.bool false))) (fNext))
    (fRet (fCall m_is_rising [false] (fCons (fVar 1) (fNil))))
def m_is_set : FSem := semOf 2 3 b_is_set
def b_need_set : FS := fIfS (fNot (fB (fCall m_is_set [false, false] (fCons (fVar 0) (fCons (fVar 1) (fNil)))))) (fRaise "NoPlace") (fNext)
def m_need_set : FSem := semOf 2 2 b_need_set
def b_pairs_of : FS := fSeq (fAsg 1 (fLst (fNil)))
    (fSeq (fFor (iEnumL (fCons (fVar 0) fNil)) (gTp [gNm 2, gNm 3]) [2, 3, 4] (fDrop (fLm 1 mExtend (fCons (fLc (iSeq (fSl slD (fVar 0) (fPart (fOp opAdd (fVar 2) (fC (.int 1)))) (fNoPart))) (gNm 4) [4] (fYes) (fTup (fCons (fVar 3) (fCons (fVar 4) (fNil))))) (fNil)))))
    (fRet (fVar 1)))
def m_pairs_of : FSem := semOf 1 5 b_pairs_of
def b_web_of : FS := fRet (fTup (fCons (fVar 0) (fCons (fBlt bTuple (fCons (fBlt bSorted (fCons (fLc (iSeq (fVar 1)) (gNm 2) [2] (fYes) (fTup (fCons (fBlt bMinL (fCons (fVar 2) (fNil))) (fCons (fBlt bMaxL (fCons (fVar 2) (fNil))) (fNil))))) (fNil))) (fNil))) (fNil))))
def m_web_of : FSem := semOf 2 3 b_web_of
def b_tied_in : FS := fRet (fOp cInK (fTup (fCons (fBlt bMin2 (fCons (fVar 1) (fCons (fVar 2) (fNil)))) (fCons (fBlt bMax2 (fCons (fVar 1) (fCons (fVar 2) (fNil)))) (fNil)))) (fOp ixD2 (fVar 0) (fC (.int 1))))
def m_tied_in : FSem := semOf 3 3 b_tied_in
def b_cut_in : FS := fSeq (fAsg 2 (fCall m_pairs_of [false] (fCons (fRg1 mkT (fBlt bLenT (fCons (fVar 1) (fNil)))) (fNil))))
    (fRet (fCall m_web_of [false, false] (fCons (fBlt bLenT (fCons (fVar 1) (fNil))) (fCons (fLc (iSeq (fVar 2)) (gTp [gNm 3, gNm 4]) [3, 4] (fB (fCall m_tied_in [false, false, false] (fCons (fVar 0) (fCons (fOp ixDT (fVar 1) (fVar 3)) (fCons (fOp ixDT (fVar 1) (fVar 4)) (fNil)))))) (fTup (fCons (fVar 3) (fCons (fVar 4) (fNil))))) (fNil)))))
def m_cut_in : FSem := semOf 2 5 b_cut_in
def b_cut_down : FS := fSeq (fDrop (fCall m_need_web [false] (fCons (fVar 0) (fNil))))
    (fSeq (fDrop (fCall m_need_set [false, false] (fCons (fVar 0) (fCons (fVar 1) (fNil)))))
    (fRet (fCall m_cut_in [false, false] (fCons (fVar 0) (fCons (fVar 1) (fNil))))))
def m_cut_down : FSem := semOf 2 2 b_cut_down
def b_is_order : FS := fSeq (fIfS (fOr (fNot (fB (fUn (bIs "tuple") (fVar 1)))) (fNot (fB (fBlt bAll (fCons (fLc (iSeq (fVar 1)) (gNm 2) [2] (fYes) (fCall m_is_whole [false] (fCons (fVar 2) (fNil)))) (fNil)))))) (fRet (fC (.bool false))) (fNext))
    (fRet (fOp cEq (fBlt bSorted (fCons (fVar 1) (fNil))) (fBlt bList (fCons (fCall m_all_places [false] (fCons (fVar 0) (fNil))) (fNil)))))
def m_is_order : FSem := semOf 2 3 b_is_order
def b_is_crowd_in : FS := fRet (fBlt bAll (fCons (fLc (iSeq (fCall m_pairs_of [false] (fCons (fVar 1) (fNil)))) (gTp [gNm 2, gNm 3]) [2, 3] (fYes) (fCall m_tied_in [false, false, false] (fCons (fVar 0) (fCons (fVar 2) (fCons (fVar 3) (fNil)))))) (fNil)))
def m_is_crowd_in : FSem := semOf 2 4 b_is_crowd_in
def b_behind_in : FS := fRet (fBlt bTuple (fCons (fBlt bSorted (fCons (fLc (iSeq (fSl slD (fVar 1) (fPart (fOp opAdd (fVar 2) (fC (.int 1)))) (fNoPart))) (gNm 3) [3] (fB (fCall m_tied_in [false, false, false] (fCons (fVar 0) (fCons (fOp ixD2 (fVar 1) (fVar 2)) (fCons (fVar 3) (fNil)))))) (fVar 3)) (fNil))) (fNil)))
def m_behind_in : FSem := semOf 3 4 b_behind_in
def b_is_fold : FS := fSeq (fDrop (fCall m_need_web [false] (fCons (fVar 0) (fNil))))
    (fSeq (fIfS (fNot (fB (fCall m_is_order [false, false] (fCons (fVar 0) (fCons (fVar 1) (fNil)))))) (fRet (fC (.bool false))) (fNext))
    (fRet (fBlt bAll (fCons (fLc (iRange1 (fCons (fBlt bLen (fCons (fVar 1) (fNil))) (fNil))) (gNm 2) [2] (fYes) (fCall m_is_crowd_in [false, false] (fCons (fVar 0) (fCons (fCall m_behind_in [false, false, false] (fCons (fVar 0) (fCons (fVar 1) (fCons (fVar 2) (fNil))))) (fNil))))) (fNil)))))
def m_is_fold : FSem := semOf 2 3 b_is_fold
def b_is_tied_as_ring : FS := fSeq (fFor (iEnumL (fCons (fVar 1) fNil)) (gTp [gNm 2, gNm 3]) [2, 3, 4, 5] (fFor (iEnumL (fCons (fSl slD (fVar 1) (fNoPart) (fPart (fVar 2))) fNil)) (gTp [gNm 4, gNm 5]) [4, 5] (fIfS (fB (fOp cNe (fCall m_tied_in [false, false, false] (fCons (fVar 0) (fCons (fVar 3) (fCons (fVar 5) (fNil))))) (fOrV (fOp cEq (fOp opSub (fVar 2) (fVar 4)) (fC (.int 1))) (fOp cEq (fOp opSub (fVar 2) (fVar 4)) (fOp opSub (fBlt bLen (fCons (fVar 1) (fNil))) (fC (.int 1))))))) (fRet (fC (.bool false))) (fNext))))
    (fRet (fC (.bool true)))
def m_is_tied_as_ring : FSem := semOf 2 6 b_is_tied_as_ring
def b_is_bare_ring : FS := fSeq (fDrop (fCall m_need_web [false] (fCons (fVar 0) (fNil))))
    (fSeq (fIfS (fOr (fB (fOp cLt (fBlt bLen (fCons (fVar 1) (fNil))) (fC (.int 4)))) (fNot (fB (fBlt bAll (fCons (fLc (iSeq (fVar 1)) (gNm 2) [2] (fYes) (fCall m_is_below [false, false] (fCons (fVar 2) (fCons (fOp ixD2 (fVar 0) (fC (.int 0))) (fNil))))) (fNil)))))) (fRet (fC (.bool false))) (fNext))
    (fSeq (fIfS (fNot (fB (fBlt bAll (fCons (fLc (iRange1 (fCons (fBlt bLen (fCons (fVar 1) (fNil))) (fNil))) (gNm 3) [3] (fYes) (fOp cNotInK (fOp ixD2 (fVar 1) (fVar 3)) (fSl slD (fVar 1) (fNoPart) (fPart (fVar 3))))) (fNil))))) (fRet (fC (.bool false))) (fNext))
    (fRet (fCall m_is_tied_as_ring [false, false] (fCons (fVar 0) (fCons (fVar 1) (fNil)))))))
def m_is_bare_ring : FSem := semOf 2 4 b_is_bare_ring
def b_least_unlike : FS := fSeq (fAsg 1 (fC (.int 0)))
    (fSeq (fWhile [] (fB (fOp cInK (fVar 1) (fVar 0))) (fAsg 1 (fOp opAdd (fVar 1) (fC (.int 1)))))
    (fRet (fVar 1)))
def m_least_unlike : FSem := semOf 1 2 b_least_unlike
def b_hues_behind : FS := fSeq (fAsg 2 (fEmD))
    (fSeq (fFor (iRange3 (fCons (fOp opSub (fBlt bLen (fCons (fVar 1) (fNil))) (fC (.int 1))) (fCons (fUn uNeg (fC (.int 1))) (fCons (fUn uNeg (fC (.int 1))) (fNil))))) (gNm 3) [3, 4] (fSetD 2 (fOp ixD2 (fVar 1) (fVar 3)) (fCall m_least_unlike [false] (fCons (fLc (iSeq (fCall m_behind_in [false, false, false] (fCons (fVar 0) (fCons (fVar 1) (fCons (fVar 3) (fNil)))))) (gNm 4) [4] (fYes) (fOp ixD2 (fVar 2) (fVar 4))) (fNil)))))
    (fRet (fBlt bTuple (fCons (fLc (iSeq (fCall m_all_places [false] (fCons (fVar 0) (fNil)))) (gNm 5) [5] (fYes) (fOp ixD2 (fVar 2) (fVar 5))) (fNil)))))
def m_hues_behind : FSem := semOf 2 6 b_hues_behind
def b_greatest_of_fold : FS := fSeq (fAsg 2 (fTup (fNil)))
    (fSeq (fFor (iEnumL (fCons (fVar 1) fNil)) (gTp [gNm 3, gNm 4]) [3, 4, 5] (fSeq (fAsg 5 (fBlt bTuple (fCons (fBlt bSorted (fCons (fOp opAdd (fCall m_behind_in [false, false, false] (fCons (fVar 0) (fCons (fVar 1) (fCons (fVar 3) (fNil))))) (fTup (fCons (fVar 4) (fNil)))) (fNil))) (fNil))))
    (fIfS (fB (fOp cGt (fBlt bLen (fCons (fVar 5) (fNil))) (fBlt bLen (fCons (fVar 2) (fNil))))) (fAsg 2 (fVar 5)) (fNext))))
    (fRet (fVar 2)))
def m_greatest_of_fold : FSem := semOf 2 6 b_greatest_of_fold
def b_by_fold : FS := fSeq (fAsg 1 (fCall m_fold [false] (fCons (fVar 0) (fNil))))
    (fSeq (fIfS (fB (fOp cEq (fOp ixD2 (fVar 1) (fC (.int 0))) (fC (.str "ring")))) (fRaise "NoFold") (fNext))
    (fSeq (fAsg 2 (fCall m_hues_behind [false, false] (fCons (fVar 0) (fCons (fOp ixD2 (fVar 1) (fC (.int 1))) (fNil)))))
    (fSeq (fAsg 3 (fCall m_greatest_of_fold [false, false] (fCons (fVar 0) (fCons (fOp ixD2 (fVar 1) (fC (.int 1))) (fNil)))))
    (fRet (fTup (fCons (fBlt bLen (fCons (fVar 3) (fNil))) (fCons (fVar 2) (fCons (fVar 3) (fNil)))))))))
def m_by_fold : FSem := semOf 1 4 b_by_fold
def b_first_greatest : FS := fSeq (fAsg 1 (fBlt bMaxL (fCons (fLc (iSeq (fVar 0)) (gNm 2) [2] (fYes) (fBlt bLen (fCons (fVar 2) (fNil)))) (fNil))))
    (fRet (fOp ixD2 (fLc (iSeq (fVar 0)) (gNm 2) [2] (fB (fOp cEq (fBlt bLen (fCons (fVar 2) (fNil))) (fVar 1))) (fVar 2)) (fC (.int 0))))
def m_first_greatest : FSem := semOf 1 3 b_first_greatest
def b_full_from (F : FSem) : FS := fSeq (fIfS (fAnd (fB (fOp cEq (fVar 3) (fLst (fNil)))) (fB (fOp cEq (fVar 4) (fLst (fNil))))) (fRet (fLst (fCons (fVar 2) (fNil)))) (fNext))
    (fSeq (fAsg 5 (fLst (fNil)))
    (fSeq (fFor (iEnumL (fCons (fVar 3) fNil)) (gTp [gNm 6, gNm 7]) [6, 7, 8, 9, 10] (fSeq (fAsg 8 (fLc (iSeq (fSl slD (fVar 3) (fPart (fOp opAdd (fVar 6) (fC (.int 1)))) (fNoPart))) (gNm 9) [9] (fB (fOp cEq (fOp ixD2 (fOp ixD2 (fVar 0) (fVar 7)) (fVar 9)) (fVar 1))) (fVar 9)))
    (fSeq (fAsg 10 (fLc (iSeq (fOp opAdd (fVar 4) (fSl slD (fVar 3) (fNoPart) (fPart (fVar 6))))) (gNm 9) [9] (fB (fOp cEq (fOp ixD2 (fOp ixD2 (fVar 0) (fVar 7)) (fVar 9)) (fVar 1))) (fVar 9)))
    (fDrop (fLm 5 mExtend (fCons (fCall F [false, false, false, false, false] (fCons (fVar 0) (fCons (fVar 1) (fCons (fOp opAdd (fVar 2) (fTup (fCons (fVar 7) (fNil)))) (fCons (fVar 8) (fCons (fVar 10) (fNil))))))) (fNil)))))))
    (fRet (fVar 5))))
def m_full_from : Nat → FSem
  | 0 => fun _ _ _ => False
  | n + 1 => semOf 5 11 (b_full_from (m_full_from n))
def b_full_crowds_in : FS := fRet (fBlt bSorted (fCons (fCall (m_full_from 16) [false, false, false, false, false] (fCons (fCall m_rows_of [false] (fCons (fVar 0) (fNil))) (fCons (fC (.bool true)) (fCons (fTup (fNil)) (fCons (fBlt bList (fCons (fCall m_all_places [false] (fCons (fVar 0) (fNil))) (fNil))) (fCons (fLst (fNil)) (fNil))))))) (fNil)))
def m_full_crowds_in : FSem := semOf 1 1 b_full_crowds_in
def b_greatest_crowd_in : FS := fRet (fCall m_first_greatest [false] (fCons (fCall m_full_crowds_in [false] (fCons (fVar 0) (fNil))) (fNil)))
def m_greatest_crowd_in : FSem := semOf 1 1 b_greatest_crowd_in
def b_greatest_crowd : FS := fSeq (fDrop (fCall m_need_web [false] (fCons (fVar 0) (fNil))))
    (fRet (fCall m_greatest_crowd_in [false] (fCons (fVar 0) (fNil))))
def m_greatest_crowd : FSem := semOf 1 1 b_greatest_crowd
def b_need_place : FS := fIfS (fNot (fB (fCall m_is_below [false, false] (fCons (fVar 1) (fCons (fOp ixD2 (fVar 0) (fC (.int 0))) (fNil)))))) (fRaise "NoPlace") (fNext)
def m_need_place : FSem := semOf 2 2 b_need_place
def b_neighbours_in : FS := fRet (fBlt bTuple (fCons (fLc (iSeq (fCall m_all_places [false] (fCons (fVar 0) (fNil)))) (gNm 2) [2] (fB (fCall m_tied_in [false, false, false] (fCons (fVar 0) (fCons (fVar 1) (fCons (fVar 2) (fNil)))))) (fVar 2)) (fNil)))
def m_neighbours_in : FSem := semOf 2 3 b_neighbours_in
def b_neighbours : FS := fSeq (fDrop (fCall m_need_web [false] (fCons (fVar 0) (fNil))))
    (fSeq (fDrop (fCall m_need_place [false, false] (fCons (fVar 0) (fCons (fVar 1) (fNil)))))
    (fRet (fCall m_neighbours_in [false, false] (fCons (fVar 0) (fCons (fVar 1) (fNil))))))
def m_neighbours : FSem := semOf 2 2 b_neighbours
def b__law_b_folds : FS := fSeq (fAsg 1 (fCall m_fold [false] (fCons (fVar 0) (fNil))))
    (fSeq (fIfS (fAnd (fB (fOp cEq (fOp ixD2 (fVar 1) (fC (.int 0))) (fC (.str "fold")))) (fOr (fB (fOp cIsNot (fCall m_is_fold [false, false] (fCons (fVar 0) (fCons (fOp ixD2 (fVar 1) (fC (.int 1))) (fNil)))) (fC (.bool true)))) (fB (fOp cNe (fOp ixD2 (fCall m_by_fold [false] (fCons (fVar 0) (fNil))) (fC (.int 0))) (fBlt bLen (fCons (fCall m_greatest_crowd [false] (fCons (fVar 0) (fNil))) (fNil))))))) (fRet (fC .none)) (fNext))
    (fSeq (fIfS (fB (fOp cEq (fOp ixD2 (fVar 1) (fC (.int 0))) (fC (.str "ring")))) (fSeq (fAsg 2 (fCall m_cut_down [false, false] (fCons (fVar 0) (fCons (fBlt bTuple (fCons (fBlt bSorted (fCons (fOp ixD2 (fVar 1) (fC (.int 1))) (fNil))) (fNil))) (fNil)))))
    (fSeq (fIfS (fOr (fB (fOp cIsNot (fCall m_is_bare_ring [false, false] (fCons (fVar 0) (fCons (fOp ixD2 (fVar 1) (fC (.int 1))) (fNil)))) (fC (.bool true)))) (fB (fOp cNe (fOp ixD2 (fCall m_fold [false] (fCons (fVar 2) (fNil))) (fC (.int 0))) (fC (.str "ring"))))) (fRet (fC .none)) (fNext))
    (fIfS (fB (fBlt bAny (fCons (fLc (iRange1 (fCons (fOp ixD2 (fVar 2) (fC (.int 0))) (fNil))) (gNm 3) [3] (fYes) (fOp cNe (fBlt bLen (fCons (fCall m_neighbours [false, false] (fCons (fVar 2) (fCons (fVar 3) (fNil)))) (fNil))) (fC (.int 2)))) (fNil)))) (fRet (fC .none)) (fNext)))) (fNext))
    (fRet (fOp cEq (fOp ixD2 (fVar 1) (fC (.int 0))) (fC (.str "fold"))))))
def m__law_b_folds : FSem := semOf 1 4 b__law_b_folds
def b__law_b_cut_right : FS := fSeq (fFor (iRange1 (fCons (fC (.int 4)) (fNil))) (gNm 3) [3, 4, 5, 6, 7, 8] (fSeq (fAsg 4 (fBlt bTupleN (fCons (fLc (iRange1 (fCons (fOp ixD2 (fVar 1) (fC (.int 0))) (fNil))) (gNm 5) [5] (fB (fOp cGt (fCall m__law_b_digit [true, false] (fCons (fVar 0) (fCons (fC (.int 3)) (fNil)))) (fC (.int 0)))) (fVar 5)) (fNil))))
    (fSeq (fAsg 6 (fCall m_cut_down [false, false] (fCons (fVar 1) (fCons (fVar 4) (fNil)))))
    (fSeq (fAsg 7 (fCall m__law_b_folds [false] (fCons (fVar 6) (fNil))))
    (fSeq (fIfS (fOr (fB (fOp cIs (fVar 7) (fC .none))) (fAnd (fB (fVar 2)) (fNot (fB (fVar 7))))) (fRet (fC (.bool false))) (fNext))
    (fIfS (fB (fVar 2)) (fSeq (fAsg 8 (fBlt bTuple (fCons (fLc (iSeq (fOp ixD2 (fCall m_fold [false] (fCons (fVar 1) (fNil))) (fC (.int 1)))) (gNm 5) [5] (fB (fOp cInT (fVar 5) (fVar 4))) (fTIx (fVar 4) (fVar 5))) (fNil))))
    (fIfS (fB (fOp cIsNot (fCall m_is_fold [false, false] (fCons (fVar 6) (fCons (fVar 8) (fNil)))) (fC (.bool true)))) (fRet (fC (.bool false))) (fNext))) (fNext)))))))
    (fRet (fC (.bool true)))
def m__law_b_cut_right : FSem := semOf 3 9 b__law_b_cut_right
def b_need_two : FS := fSeq (fDrop (fCall m_need_web [false] (fCons (fVar 0) (fNil))))
    (fDrop (fCall m_need_web [false] (fCons (fVar 1) (fNil))))
def m_need_two : FSem := semOf 2 2 b_need_two
def b_need_room : FS := fIfS (fB (fOp cGt (fVar 0) (fC (.int 10)))) (fRaise "TooMany") (fNext)
def m_need_room : FSem := semOf 1 1 b_need_room
def b_moved : FS := fRet (fLc (iSeq (fVar 0)) (gTp [gNm 2, gNm 3]) [2, 3] (fYes) (fTup (fCons (fOp opAdd (fVar 2) (fVar 1)) (fCons (fOp opAdd (fVar 3) (fVar 1)) (fNil)))))
def m_moved : FSem := semOf 2 4 b_moved
def b_beside : FS := fSeq (fDrop (fCall m_need_two [false, false] (fCons (fVar 0) (fCons (fVar 1) (fNil)))))
    (fSeq (fDrop (fCall m_need_room [false] (fCons (fOp opAdd (fOp ixD2 (fVar 0) (fC (.int 0))) (fOp ixD2 (fVar 1) (fC (.int 0)))) (fNil))))
    (fRet (fCall m_web_of [false, false] (fCons (fOp opAdd (fOp ixD2 (fVar 0) (fC (.int 0))) (fOp ixD2 (fVar 1) (fC (.int 0)))) (fCons (fOp opAdd (fBlt bList (fCons (fOp ixD2 (fVar 0) (fC (.int 1))) (fNil))) (fCall m_moved [false, false] (fCons (fOp ixD2 (fVar 1) (fC (.int 1))) (fCons (fOp ixD2 (fVar 0) (fC (.int 0))) (fNil))))) (fNil))))))
def m_beside : FSem := semOf 2 2 b_beside
def b__law_b_called : FS := fSeq (fAsg 2 (fLst (fNil)))
    (fSeq (fFor (iRange1 (fCons (fOp ixD2 (fVar 1) (fC (.int 0))) (fNil))) (gNm 3) [3] (fDrop (fLm 2 mInsert (fCons (fCall m__law_b_digit [true, false] (fCons (fVar 0) (fCons (fOp opAdd (fVar 3) (fC (.int 1))) (fNil)))) (fCons (fVar 3) (fNil))))))
    (fSeq (fAsg 4 (fLc (iSeq (fOp ixD2 (fVar 1) (fC (.int 1)))) (gTp [gNm 5, gNm 6]) [5, 6] (fYes) (fTup (fCons (fBlt bMin2 (fCons (fOp ixD2 (fVar 2) (fVar 5)) (fCons (fOp ixD2 (fVar 2) (fVar 6)) (fNil)))) (fCons (fBlt bMax2 (fCons (fOp ixD2 (fVar 2) (fVar 5)) (fCons (fOp ixD2 (fVar 2) (fVar 6)) (fNil)))) (fNil))))))
    (fRet (fTup (fCons (fOp ixD2 (fVar 1) (fC (.int 0))) (fCons (fBlt bTuple (fCons (fBlt bSorted (fCons (fVar 4) (fNil))) (fNil))) (fNil)))))))
def m__law_b_called : FSem := semOf 2 7 b__law_b_called
def b_is_crowd : FS := fSeq (fDrop (fCall m_need_web [false] (fCons (fVar 0) (fNil))))
    (fSeq (fDrop (fCall m_need_set [false, false] (fCons (fVar 0) (fCons (fVar 1) (fNil)))))
    (fRet (fCall m_is_crowd_in [false, false] (fCons (fVar 0) (fCons (fVar 1) (fNil))))))
def m_is_crowd : FSem := semOf 2 2 b_is_crowd
def b__law_b_with_one : FS := fSeq (fAsg 2 (fLst (fNil)))
    (fSeq (fFor (iRange1 (fCons (fOp ixD2 (fVar 1) (fC (.int 0))) (fNil))) (gNm 3) [3] (fIfS (fAnd (fB (fOp cEq (fCall m__law_b_digit [true, false] (fCons (fVar 0) (fCons (fC (.int 2)) (fNil)))) (fC (.int 0)))) (fB (fCall m_is_crowd [false, false] (fCons (fVar 1) (fCons (fBlt bTuple (fCons (fOp opAdd (fVar 2) (fLst (fCons (fVar 3) (fNil)))) (fNil))) (fNil)))))) (fDrop (fLm 2 mAppend (fCons (fVar 3) (fNil)))) (fNext)))
    (fRet (fTup (fCons (fOp opAdd (fOp ixD2 (fVar 1) (fC (.int 0))) (fC (.int 1))) (fCons (fBlt bTuple (fCons (fBlt bSorted (fCons (fOp opAdd (fBlt bList (fCons (fOp ixD2 (fVar 1) (fC (.int 1))) (fNil))) (fLc (iSeq (fVar 2)) (gNm 3) [3] (fYes) (fTup (fCons (fVar 3) (fCons (fOp ixD2 (fVar 1) (fC (.int 0))) (fNil)))))) (fNil))) (fNil))) (fNil))))))
def m__law_b_with_one : FSem := semOf 2 4 b__law_b_with_one
def b_law : FS := fSeq (fAsg 1 (fLst (fCons (fVar 0) (fCons (fC (.int 0)) (fCons (fC (.int 0)) (fNil))))))
    (fSeq (fFor (iRange1 (fCons (fC (.int 3)) (fNil))) (gNm 2) [2, 3, 4, 5] (fSeq (fIfS (fAnd (fB (fOp cGt (fVar 2) (fC (.int 1)))) (fB (fOp cGe (fOp ixD2 (fVar 1) (fC (.int 1))) (fBlt bLen (fCons (fVar 0) (fNil)))))) (fBreak) (fNext))
    (fSeq (fAsg 3 (fCall m__law_b_web [true, false] (fCons (fVar 1) (fCons (fC (.int 10)) (fNil)))))
    (fSeq (fAsg 4 (fCall m__law_b_folds [false] (fCons (fVar 3) (fNil))))
    (fSeq (fIfS (fOr (fB (fOp cIs (fVar 4) (fC .none))) (fOr (fB (fOp cNe (fCall m__law_b_folds [false] (fCons (fCall m__law_b_called [true, false] (fCons (fVar 1) (fCons (fVar 3) (fNil)))) (fNil))) (fVar 4))) (fNot (fB (fCall m__law_b_cut_right [true, false, false] (fCons (fVar 1) (fCons (fVar 3) (fCons (fVar 4) (fNil))))))))) (fRet (fC (.bool false))) (fNext))
    (fSeq (fAsg 5 (fCall m__law_b_web [true, false] (fCons (fVar 1) (fCons (fOp opSub (fC (.int 10)) (fOp ixD2 (fVar 3) (fC (.int 0)))) (fNil)))))
    (fSeq (fIfS (fB (fOp cNe (fCall m__law_b_folds [false] (fCons (fCall m_beside [false, false] (fCons (fVar 3) (fCons (fVar 5) (fNil)))) (fNil))) (fAndV (fVar 4) (fCall m__law_b_folds [false] (fCons (fVar 5) (fNil)))))) (fRet (fC (.bool false))) (fNext))
    (fIfS (fAnd (fB (fOp cLt (fOp ixD2 (fVar 3) (fC (.int 0))) (fC (.int 10)))) (fB (fOp cNe (fCall m__law_b_folds [false] (fCons (fCall m__law_b_with_one [true, false] (fCons (fVar 1) (fCons (fVar 3) (fNil)))) (fNil))) (fVar 4)))) (fRet (fC (.bool false))) (fNext)))))))))
    (fRet (fC (.bool true))))
def m_law : FSem := semOf 1 6 b_law
section
variable {P : Program} {w : World} {K : PySem.W.Frag} {mg : Str → Option Value} {base : Heap}
theorem sc__law_b_stirred : FnScope ["cell", "at", "first", "second", "third"] ["cell", "at"] (defScope s__law_b_stirred) := ⟨rfl, rfl, rfl, by decide +kernel, rfl, by decide +kernel, by decide +kernel⟩
theorem ok__law_b_stirred (T : TxOk fa fn K mg base) : Df P w K mg base "_law_b_stirred" 1 ["cell", "at"] [false, false] m__law_b_stirred := by
  refine dfOk (bd := b__law_b_stirred) T 0 0 sc__law_b_stirred (by decide) (fun _ _ _ _ _ _ us hl => match us, hl with | [_, _], _ => rfl) ?_
  intro f cdv A outer s H vs E hr
  have sc := sc__law_b_stirred
  exact pfs_cons (pfs_if (pft_cmp fop_ge (pf_var 0) (pf_powC 1000000000000000000) (nomark _)) (pfs_one (pfs_ret (pf_var 0))) (pfs_nil))
    (pfs_cons (pfs_set (i := 2) sc.nd (pf_op fop_mod (pf_op fop_add (pf_op fop_add (pf_op fop_mul (pf_op fop_mod (pf_var 0) (pf_int)) (pf_int)) (pf_op fop_mul (pf_var 1) (pf_int))) (pf_int)) (pf_int)))
    (pfs_cons (pfs_set (i := 3) sc.nd (pf_op fop_mod (pf_op fop_add (pf_op fop_add (pf_op fop_mul (pf_var 2) (pf_var 2)) (pf_op fop_mul (pf_int) (pf_var 1))) (pf_int)) (pf_int)))
    (pfs_cons (pfs_set (i := 4) sc.nd (pf_op fop_mod (pf_op fop_add (pf_op fop_add (pf_op fop_mul (pf_var 3) (pf_var 3)) (pf_op fop_mul (pf_int) (pf_var 2))) (pf_var 1)) (pf_int)))
    (pfs_one (pfs_ret (pf_op fop_add (pf_op fop_mul (pf_var 3) (pf_int)) (pf_var 4)))))))
theorem sc__law_b_digit : FnScope ["tape", "many", "at", "cell", "found"] ["tape", "many"] (defScope s__law_b_digit) := ⟨rfl, rfl, rfl, by decide +kernel, rfl, by decide +kernel, by decide +kernel⟩
theorem ok__law_b_digit (T : TxOk fa fn K mg base) : Df P w K mg base "_law_b_digit" 2 ["tape", "many"] [true, false] m__law_b_digit := by
  refine dfOk (bd := b__law_b_digit) T 1 1 sc__law_b_digit (by decide) (fun _ _ _ _ _ _ us hl => match us, hl with | [_, _], _ => rfl) ?_
  intro f cdv A outer s H vs E hr
  have sc := sc__law_b_digit
  exact pfs_cons (pfs_if (pft_cmp (fop_lt hr.units0) (pf_ix (fix_d2 hr.u1) (pf_var 0) (pf_int)) (pf_var 1) (nomark _)) (pfs_cons (pfs_set (i := 2) sc.nd (pf_ix (fix_d2 hr.u1) (pf_var 0) (pf_int)))
    (pfs_cons (pfs_set (i := 3) sc.nd (pf_op fop_add (pf_op fop_mul (pf_int) (pf_var 2)) (pf_int)))
    (pfs_cons (pfs_if (pft_cmp (fop_lt hr.units0) (pf_var 2) (pf_blt fb_len (T.free 67) bb_len (pf_cons (pf_ix (fix_d2 hr.u1) (pf_var 0) (pf_int)) (pf_nil))) (nomark _)) (pfs_one (pfs_set (i := 3) sc.nd (pf_ix (fix_d2 hr.u1) (pf_ix (fix_d2 hr.u1) (pf_var 0) (pf_int)) (pf_var 2)))) (pfs_one (pfs_if (pft_cmp (fop_ne hr.u64) (pf_ix (fix_d2 hr.u1) (pf_var 0) (pf_int)) (pf_lst (pf_nil)) (nomark _)) (pfs_one (pfs_set (i := 3) sc.nd (pf_op fop_add (pf_op fop_mod (pf_ix (fix_d2 hr.u1) (pf_ix (fix_d2 hr.u1) (pf_var 0) (pf_int)) (pf_op fop_mod (pf_op fop_mul (pf_var 2) (pf_int)) (pf_blt fb_len (T.free 67) bb_len (pf_cons (pf_ix (fix_d2 hr.u1) (pf_var 0) (pf_int)) (pf_nil))))) (pf_int)) (pf_op fop_mul (pf_var 2) (pf_int))))) (pfs_nil))))
    (pfs_cons (pfs_setIx 0 (pf_op fop_add (pf_var 2) (pf_int)) (pv 0) (pf_int))
    (pfs_one (pfs_setIx 0 (pf_callD (ok__law_b_stirred T) (hr.mono (by decide)) (fun σ => passAt (takes_of rfl rfl rfl rfl) σ) (pf_cons (pf_var 3) (pf_cons (pf_var 2) (pf_nil)))) (pv 0) (pf_int))))))) (pfs_nil))
    (pfs_cons (pfs_set (i := 4) sc.nd (pf_op fop_mod (pf_ix (fix_d2 hr.u1) (pf_var 0) (pf_int)) (pf_var 1)))
    (pfs_cons (pfs_setIx 0 (pf_op fop_fdiv (pf_ix (fix_d2 hr.u1) (pf_var 0) (pf_int)) (pf_var 1)) (pv 0) (pf_int))
    (pfs_one (pfs_ret (pf_var 4)))))
theorem sc__law_b_pairs : FnScope ["tape", "n", "kind", "k", "found", "wide", "crowds", "j", "base", "some", "i"] ["tape", "n", "kind"] (defScope s__law_b_pairs) := ⟨rfl, rfl, rfl, by decide +kernel, rfl, by decide +kernel, by decide +kernel⟩
theorem ok__law_b_pairs (T : TxOk fa fn K mg base) : Df P w K mg base "_law_b_pairs" 3 ["tape", "n", "kind"] [true, false, false] m__law_b_pairs := by
  refine dfOk (bd := b__law_b_pairs) T 2 2 sc__law_b_pairs (by decide) (fun _ _ _ _ _ _ us hl => match us, hl with | [_, _, _], _ => rfl) ?_
  intro f cdv A outer s H vs E hr
  have sc := sc__law_b_pairs
  exact pfs_cons (pfs_if (pft_cmp (fop_eq hr.u64) (pf_var 2) (pf_int) (nomark _)) (pfs_one (pfs_ret (pf_op fop_add (pf_lc (own := [("k", 3)]) rfl sc.nd (pfi_range1 rfl (T.free 68) (pf_cons (pf_op fop_sub (pf_var 1) (pf_int)) (pf_nil))) (blkOk_by (by rfl)) (fun s H C cl fp => pfg_nm sc.nd) (fun s H C cl fp => pfts_nil) (fun s H C cl fp => pf_tup (pf_cons (pf_var 3) (pf_cons (pf_op fop_add (pf_var 3) (pf_int)) (pf_nil))))) (pf_op fop_mul (pf_lst (pf_cons (pf_tup (pf_cons (pf_int) (pf_cons (pf_op fop_sub (pf_var 1) (pf_int)) (pf_nil)))) (pf_nil))) (pf_bty fb_int (T.free 69) bb_int (pf_cons (pf_cmp fop_gt (pf_var 1) (pf_int) (nomark _)) (pf_nil))))))) (pfs_nil))
    (pfs_cons (pfs_set (i := 4) sc.nd (pf_lst (pf_nil)))
    (pfs_cons (pfs_set (i := 5) sc.nd (pf_callD (ok__law_b_digit T) (hr.mono (by decide)) (fun σ => passAt (takes_of rfl rfl rfl rfl) σ) (pf_cons (pf_var 0) (pf_cons (pf_int) (pf_nil)))))
    (pfs_cons (pfs_set (i := 6) sc.nd (pf_lst (pf_cons (pf_lst (pf_nil)) (pf_nil))))
    (pfs_cons (pfs_for (ws := [7]) (wp := [7, 8, 9, 10]) (passes_of rfl) rfl (pfi_range1 rfl (T.free 68) (pf_cons (pf_var 1) (pf_nil))) (pfg_nm sc.nd) (pfs_cons (pfs_set (i := 8) sc.nd (pf_ix (fix_d2 hr.u1) (pf_var 6) (pf_callD (ok__law_b_digit T) (hr.mono (by decide)) (fun σ => passAt (takes_of rfl rfl rfl rfl) σ) (pf_cons (pf_var 0) (pf_cons (pf_blt fb_len (T.free 67) bb_len (pf_cons (pf_var 6) (pf_nil))) (pf_nil))))))
    (pfs_cons (pfs_setLc (own := [("i", 10)]) rfl sc.nd rfl (pfi_seq (pf_var 8)) (blkOk_by (by rfl)) (fun s H C cl fp => pfg_nm sc.nd) (fun s H C cl fp => pfts_one (pft_cmp fop_gt (pf_callD (ok__law_b_digit T) (hr.mono (by decide)) pass0At (pf_cons (pf_var 0) (pf_cons (pf_int) (pf_nil)))) (pf_int) (nomark _))) (fun s H C cl fp => pf_var 10))
    (pfs_cons (pfs_expr (pf_lm 6 PySem.F.slot_list_append PySem.F.type_list_append fm_append (pf_cons (pf_op fop_add (pf_var 9) (pf_lst (pf_cons (pf_var 7) (pf_nil)))) (pf_nil)) (pv 6)))
    (pfs_cons (pfs_if (pft_cmp (fop_lt hr.units0) (pf_var 2) (pf_int) (nomark _)) (pfs_one (pfs_setLc (own := [("i", 10)]) rfl sc.nd rfl (pfi_range1 rfl (T.free 68) (pf_cons (pf_var 7) (pf_nil))) (blkOk_by (by rfl)) (fun s H C cl fp => pfg_nm sc.nd) (fun s H C cl fp => pfts_one (pft_cmp (fop_lt hr.units0) (pf_callD (ok__law_b_digit T) (hr.mono (by decide)) pass0At (pf_cons (pf_var 0) (pf_cons (pf_int) (pf_nil)))) (pf_op fop_add (pf_var 2) (pf_int)) (nomark _))) (fun s H C cl fp => pf_var 10))) (pfs_nil))
    (pfs_cons (pfs_if (pft_cmp (fop_eq hr.u64) (pf_var 2) (pf_int) (nomark _)) (pfs_one (pfs_setLc (own := [("i", 10)]) rfl sc.nd rfl (pfi_range1 rfl (T.free 68) (pf_cons (pf_var 7) (pf_nil))) (blkOk_by (by rfl)) (fun s H C cl fp => pfg_nm sc.nd) (fun s H C cl fp => pfts_one (pft_cmp fop_le (pf_op fop_sub (pf_var 7) (pf_var 10)) (pf_var 5) (nomark _))) (fun s H C cl fp => pf_var 10))) (pfs_nil))
    (pfs_one (pfs_set (i := 4) sc.nd (pf_op fop_add (pf_var 4) (pf_lc (own := [("i", 10)]) rfl sc.nd (pfi_seq (pf_var 9)) (blkOk_by (by rfl)) (fun s H C cl fp => pfg_nm sc.nd) (fun s H C cl fp => pfts_nil) (fun s H C cl fp => pf_tup (pf_cons (pf_var 10) (pf_cons (pf_var 7) (pf_nil))))))))))))))
    (pfs_one (pfs_ret (pf_var 4)))))))
theorem sc__law_b_web : FnScope ["tape", "most", "n", "called", "k", "found", "i", "j"] ["tape", "most"] (defScope s__law_b_web) := ⟨rfl, rfl, rfl, by decide +kernel, rfl, by decide +kernel, by decide +kernel⟩
theorem ok__law_b_web (T : TxOk fa fn K mg base) : Df P w K mg base "_law_b_web" 4 ["tape", "most"] [true, false] m__law_b_web := by
  refine dfOk (bd := b__law_b_web) T 3 3 sc__law_b_web (by decide) (fun _ _ _ _ _ _ us hl => match us, hl with | [_, _], _ => rfl) ?_
  intro f cdv A outer s H vs E hr
  have sc := sc__law_b_web
  exact pfs_cons (pfs_set (i := 2) sc.nd (pf_callD (ok__law_b_digit T) (hr.mono (by decide)) (fun σ => passAt (takes_of rfl rfl rfl rfl) σ) (pf_cons (pf_var 0) (pf_cons (pf_op fop_add (pf_var 1) (pf_int)) (pf_nil)))))
    (pfs_cons (pfs_set (i := 3) sc.nd (pf_lst (pf_nil)))
    (pfs_cons (pfs_for (ws := [4]) (wp := [4]) (passes_of rfl) rfl (pfi_range1 rfl (T.free 68) (pf_cons (pf_var 2) (pf_nil))) (pfg_nm sc.nd) (pfs_one (pfs_expr (pf_lm 3 PySem.F.slot_list_insert PySem.F.type_list_insert fm_insert (pf_cons (pf_callD (ok__law_b_digit T) (hr.mono (by decide)) (fun σ => passAt (takes_of rfl rfl rfl rfl) σ) (pf_cons (pf_var 0) (pf_cons (pf_op fop_add (pf_var 4) (pf_int)) (pf_nil)))) (pf_cons (pf_var 4) (pf_nil))) (pv 3)))))
    (pfs_cons (pfs_set (i := 5) sc.nd (pf_lst (pf_nil)))
    (pfs_cons (pfs_for (ws := [6, 7]) (wp := [6, 7]) (passes_of rfl) rfl (pfi_seq (pf_callD (ok__law_b_pairs T) (hr.mono (by decide)) (fun σ => passAt (takes_of rfl rfl rfl rfl) σ) (pf_cons (pf_var 0) (pf_cons (pf_var 2) (pf_cons (pf_callD (ok__law_b_digit T) (hr.mono (by decide)) (fun σ => passAt (takes_of rfl rfl rfl rfl) σ) (pf_cons (pf_var 0) (pf_cons (pf_int) (pf_nil)))) (pf_nil)))))) (pfg_tup rfl (pfgs_cons (pfg_nm sc.nd) (pfgs_cons (pfg_nm sc.nd) (pfgs_nil))) rfl rfl tp2) (pfs_one (pfs_expr (pf_lm 5 PySem.F.slot_list_append PySem.F.type_list_append fm_append (pf_cons (pf_tup (pf_cons (pf_blt (fb_min2 rfl) (T.free 71) bb_min (pf_cons (pf_ix (fix_d2 hr.u1) (pf_var 3) (pf_var 6)) (pf_cons (pf_ix (fix_d2 hr.u1) (pf_var 3) (pf_var 7)) (pf_nil)))) (pf_cons (pf_blt (fb_max2 rfl) (T.free 70) bb_max (pf_cons (pf_ix (fix_d2 hr.u1) (pf_var 3) (pf_var 6)) (pf_cons (pf_ix (fix_d2 hr.u1) (pf_var 3) (pf_var 7)) (pf_nil)))) (pf_nil)))) (pf_nil)) (pv 5)))))
    (pfs_one (pfs_ret (pf_tup (pf_cons (pf_var 2) (pf_cons (pf_bty fb_tuple (T.free 73) bb_tuple (pf_cons (pf_blt fb_sorted (T.free 72) bb_sorted (pf_cons (pf_var 5) (pf_nil))) (pf_nil))) (pf_nil))))))))))
theorem sc_is_whole : FnScope ["thing"] ["thing"] (defScope s_is_whole) := ⟨rfl, rfl, rfl, by decide +kernel, rfl, by decide +kernel, by decide +kernel⟩
theorem ok_is_whole (T : TxOk fa fn K mg base) : Df P w K mg base "is_whole" 1 ["thing"] [false] m_is_whole := by
  refine dfOk (bd := b_is_whole) T 4 4 sc_is_whole (by decide) (fun _ _ _ _ _ _ us hl => match us, hl with | [_], _ => rfl) ?_
  intro f cdv A outer s H vs E hr
  have sc := sc_is_whole
  exact pfs_one (pfs_ret (pf_and (pf_isinst .int (pf_var 0) (T.free 74) (T.free 69) bb_int) (pf_one (pf_not (pf_isinst .bool (pf_var 0) (T.free 74) (T.free 75) bb_bool)))))
theorem sc_is_below : FnScope ["thing", "many"] ["thing", "many"] (defScope s_is_below) := ⟨rfl, rfl, rfl, by decide +kernel, rfl, by decide +kernel, by decide +kernel⟩
theorem ok_is_below (T : TxOk fa fn K mg base) : Df P w K mg base "is_below" 2 ["thing", "many"] [false, false] m_is_below := by
  refine dfOk (bd := b_is_below) T 5 5 sc_is_below (by decide) (fun _ _ _ _ _ _ us hl => match us, hl with | [_, _], _ => rfl) ?_
  intro f cdv A outer s H vs E hr
  have sc := sc_is_below
  exact pfs_one (pfs_ret (pf_and (pf_callD (ok_is_whole T) (hr.mono (by decide)) (fun σ => passAt (takes_of rfl rfl rfl rfl) σ) (pf_cons (pf_var 0) (pf_nil))) (pf_one (pf_chain fop_le (fop_lt hr.units0) (pf_int) (pf_var 0) (pf_var 1)))))
theorem sc_is_rising : FnScope ["row", "k"] ["row"] (defScope s_is_rising) := ⟨rfl, rfl, rfl, by decide +kernel, rfl, by decide +kernel, by decide +kernel⟩
theorem ok_is_rising (T : TxOk fa fn K mg base) : Df P w K mg base "is_rising" 1 ["row"] [false] m_is_rising := by
  refine dfOk (bd := b_is_rising) T 6 6 sc_is_rising (by decide) (fun _ _ _ _ _ _ us hl => match us, hl with | [_], _ => rfl) ?_
  intro f cdv A outer s H vs E hr
  have sc := sc_is_rising
  exact pfs_one (pfs_ret (pf_blt (fb_all rfl) (T.free 76) bb_all (pf_cons (pf_lc (own := [("k", 1)]) rfl sc.nd (pfi_range1 rfl (T.free 68) (pf_cons (pf_op fop_sub (pf_blt fb_lenT (T.free 67) bb_len (pf_cons (pf_var 0) (pf_nil))) (pf_int)) (pf_nil))) (blkOk_by (by rfl)) (fun s H C cl fp => pfg_nm sc.nd) (fun s H C cl fp => pfts_nil) (fun s H C cl fp => pf_cmp (fop_lt hr.units0) (pf_ix (fix_dT hr.u1) (pf_var 0) (pf_var 1)) (pf_ix (fix_dT hr.u1) (pf_var 0) (pf_op fop_add (pf_var 1) (pf_int))) (nomark _))) (pf_nil))))
theorem sc_is_tie : FnScope ["n", "thing"] ["n", "thing"] (defScope s_is_tie) := ⟨rfl, rfl, rfl, by decide +kernel, rfl, by decide +kernel, by decide +kernel⟩
theorem ok_is_tie (T : TxOk fa fn K mg base) : Df P w K mg base "is_tie" 3 ["n", "thing"] [false, false] m_is_tie := by
  refine dfOk (bd := b_is_tie) T 7 7 sc_is_tie (by decide) (fun _ _ _ _ _ _ us hl => match us, hl with | [_, _], _ => rfl) ?_
  intro f cdv A outer s H vs E hr
  have sc := sc_is_tie
  exact pfs_cons (pfs_if (pft_W (pfw_or (pft_not (pft_B (pf_isinst .tuple (pf_var 1) (T.free 74) (T.free 73) bb_tuple))) (pfw_or1 (pft_cmp (fop_ne hr.u64) (pf_blt fb_len (T.free 67) bb_len (pf_cons (pf_var 1) (pf_nil))) (pf_int) (nomark _))))) (pfs_one (pfs_ret (pf_bl))) (pfs_nil))
    (pfs_one (pfs_ret (pf_and (pf_callD (ok_is_below T) (hr.mono (by decide)) (fun σ => passAt (takes_of rfl rfl rfl rfl) σ) (pf_cons (pf_ix (fix_d2 hr.u1) (pf_var 1) (pf_int)) (pf_cons (pf_var 0) (pf_nil)))) (pf_and (pf_callD (ok_is_below T) (hr.mono (by decide)) (fun σ => passAt (takes_of rfl rfl rfl rfl) σ) (pf_cons (pf_ix (fix_d2 hr.u1) (pf_var 1) (pf_int)) (pf_cons (pf_var 0) (pf_nil)))) (pf_one (pf_cmp (fop_lt hr.units0) (pf_ix (fix_d2 hr.u1) (pf_var 1) (pf_int)) (pf_ix (fix_d2 hr.u1) (pf_var 1) (pf_int)) (nomark _)))))))
theorem sc_are_ties : FnScope ["n", "thing", "tie"] ["n", "thing"] (defScope s_are_ties) := ⟨rfl, rfl, rfl, by decide +kernel, rfl, by decide +kernel, by decide +kernel⟩
theorem ok_are_ties (T : TxOk fa fn K mg base) : Df P w K mg base "are_ties" 4 ["n", "thing"] [false, false] m_are_ties := by
  refine dfOk (bd := b_are_ties) T 8 8 sc_are_ties (by decide) (fun _ _ _ _ _ _ us hl => match us, hl with | [_, _], _ => rfl) ?_
  intro f cdv A outer s H vs E hr
  have sc := sc_are_ties
  exact pfs_cons (pfs_if (pft_W (pfw_or (pft_not (pft_B (pf_isinst .tuple (pf_var 1) (T.free 74) (T.free 73) bb_tuple))) (pfw_or1 (pft_not (pft_B (pf_blt (fb_all rfl) (T.free 76) bb_all (pf_cons (pf_lc (own := [("tie", 2)]) rfl sc.nd (pfi_seq (pf_var 1)) (blkOk_by (by rfl)) (fun s H C cl fp => pfg_nm sc.nd) (fun s H C cl fp => pfts_nil) (fun s H C cl fp => pf_callD (ok_is_tie T) (hr.mono (by decide)) pass0At (pf_cons (pf_var 0) (pf_cons (pf_var 2) (pf_nil))))) (pf_nil)))))))) (pfs_one (pfs_ret (pf_bl))) (pfs_nil))
    (pfs_one (pfs_ret (pf_callD (ok_is_rising T) (hr.mono (by decide)) (fun σ => passAt (takes_of rfl rfl rfl rfl) σ) (pf_cons (pf_var 1) (pf_nil)))))
theorem sc_is_web : FnScope ["thing"] ["thing"] (defScope s_is_web) := ⟨rfl, rfl, rfl, by decide +kernel, rfl, by decide +kernel, by decide +kernel⟩
theorem ok_is_web (T : TxOk fa fn K mg base) : Df P w K mg base "is_web" 5 ["thing"] [false] m_is_web := by
  refine dfOk (bd := b_is_web) T 9 9 sc_is_web (by decide) (fun _ _ _ _ _ _ us hl => match us, hl with | [_], _ => rfl) ?_
  intro f cdv A outer s H vs E hr
  have sc := sc_is_web
  exact pfs_cons (pfs_if (pft_W (pfw_or (pft_not (pft_B (pf_isinst .tuple (pf_var 0) (T.free 74) (T.free 73) bb_tuple))) (pfw_or1 (pft_cmp (fop_ne hr.u64) (pf_blt fb_len (T.free 67) bb_len (pf_cons (pf_var 0) (pf_nil))) (pf_int) (nomark _))))) (pfs_one (pfs_ret (pf_bl))) (pfs_nil))
    (pfs_one (pfs_ret (pf_and (pf_callD (ok_is_below T) (hr.mono (by decide)) (fun σ => passAt (takes_of rfl rfl rfl rfl) σ) (pf_cons (pf_ix (fix_d2 hr.u1) (pf_var 0) (pf_int)) (pf_cons (pf_op fop_add (pf_globI (T.int 66)) (pf_int)) (pf_nil)))) (pf_one (pf_callD (ok_are_ties T) (hr.mono (by decide)) (fun σ => passAt (takes_of rfl rfl rfl rfl) σ) (pf_cons (pf_ix (fix_d2 hr.u1) (pf_var 0) (pf_int)) (pf_cons (pf_ix (fix_d2 hr.u1) (pf_var 0) (pf_int)) (pf_nil))))))))
theorem sc_need_web : FnScope ["web"] ["web"] (defScope s_need_web) := ⟨rfl, rfl, rfl, by decide +kernel, rfl, by decide +kernel, by decide +kernel⟩
theorem ok_need_web (T : TxOk fa fn K mg base) : Df P w K mg base "need_web" 6 ["web"] [false] m_need_web := by
  refine dfOk (bd := b_need_web) T 10 10 sc_need_web (by decide) (fun _ _ _ _ _ _ us hl => match us, hl with | [_], _ => rfl) ?_
  intro f cdv A outer s H vs E hr
  have sc := sc_need_web
  exact pfs_one (pfs_if (pft_not (pft_B (pf_callD (ok_is_web T) (hr.mono (by decide)) (fun σ => passAt (takes_of rfl rfl rfl rfl) σ) (pf_cons (pf_var 0) (pf_nil))))) (pfs_one (pfs_raise rfl (takes_of rfl rfl rfl rfl) (T.glo 58) (T.exc 59))) (pfs_nil))
theorem sc_all_places : FnScope ["web"] ["web"] (defScope s_all_places) := ⟨rfl, rfl, rfl, by decide +kernel, rfl, by decide +kernel, by decide +kernel⟩
theorem ok_all_places (T : TxOk fa fn K mg base) : Df P w K mg base "all_places" 1 ["web"] [false] m_all_places := by
  refine dfOk (bd := b_all_places) T 11 11 sc_all_places (by decide) (fun _ _ _ _ _ _ us hl => match us, hl with | [_], _ => rfl) ?_
  intro f cdv A outer s H vs E hr
  have sc := sc_all_places
  exact pfs_one (pfs_ret (pf_tRg1 rfl (T.free 73) (T.free 68) (pf_ix (fix_d2 hr.u1) (pf_var 0) (pf_int))))
theorem sc_rows_of : FnScope ["web", "found", "place", "one", "other"] ["web"] (defScope s_rows_of) := ⟨rfl, rfl, rfl, by decide +kernel, rfl, by decide +kernel, by decide +kernel⟩
theorem ok_rows_of (T : TxOk fa fn K mg base) : Df P w K mg base "rows_of" 2 ["web"] [false] m_rows_of := by
  refine dfOk (bd := b_rows_of) T 12 12 sc_rows_of (by decide) (fun _ _ _ _ _ _ us hl => match us, hl with | [_], _ => rfl) ?_
  intro f cdv A outer s H vs E hr
  have sc := sc_rows_of
  exact pfs_cons (pfs_setLcL (own := [("place", 2)]) rfl sc.nd rfl (pfi_seq (pf_callD (ok_all_places T) (hr.mono (by decide)) (fun σ => passAt (takes_of rfl rfl rfl rfl) σ) (pf_cons (pf_var 0) (pf_nil)))) (blkOk_by (by rfl)) (fun s H C cl fp => pfg_nm sc.nd) (fun s H C cl fp => pfts_nil) (fun s H C cl fp => pf_op fop_mul (pf_lst (pf_cons (pf_bl) (pf_nil))) (pf_ix (fix_d2 hr.u1) (pf_var 0) (pf_int))))
    (pfs_cons (pfs_for (ws := [3, 4]) (wp := [3, 4]) (passes_of rfl) rfl (pfi_seq (pf_ix (fix_d2 hr.u1) (pf_var 0) (pf_int))) (pfg_tup rfl (pfgs_cons (pfg_nm sc.nd) (pfgs_cons (pfg_nm sc.nd) (pfgs_nil))) rfl rfl tp2) (pfs_cons (pfs_setLL 1 3 4 (pf_bl) (pv 1) (pv 3) (pv 4))
    (pfs_one (pfs_setLL 1 4 3 (pf_bl) (pv 1) (pv 4) (pv 3)))))
    (pfs_one (pfs_ret (pf_var 1))))
theorem sc_all_tied : FnScope ["rows", "some", "at", "one", "other"] ["rows", "some"] (defScope s_all_tied) := ⟨rfl, rfl, rfl, by decide +kernel, rfl, by decide +kernel, by decide +kernel⟩
theorem ok_all_tied (T : TxOk fa fn K mg base) : Df P w K mg base "all_tied" 1 ["rows", "some"] [false, false] m_all_tied := by
  refine dfOk (bd := b_all_tied) T 13 13 sc_all_tied (by decide) (fun _ _ _ _ _ _ us hl => match us, hl with | [_, _], _ => rfl) ?_
  intro f cdv A outer s H vs E hr
  have sc := sc_all_tied
  exact pfs_cons (pfs_for (ws := [2, 3]) (wp := [2, 3, 4]) (passes_of rfl) rfl (pfi_enum rfl (T.free 77) (pf_cons (pf_var 1) pf_nil)) (pfg_tup rfl (pfgs_cons (pfg_nm sc.nd) (pfgs_cons (pfg_nm sc.nd) (pfgs_nil))) rfl rfl tp2) (pfs_one (pfs_if (pft_not (pft_B (pf_blt (fb_all rfl) (T.free 76) bb_all (pf_cons (pf_lc (own := [("other", 4)]) rfl sc.nd (pfi_seq (pf_sl (pf_var 1) (pfo_some (pf_op fop_add (pf_var 2) (pf_int))) (pfo_none))) (blkOk_by (by rfl)) (fun s H C cl fp => pfg_nm sc.nd) (fun s H C cl fp => pfts_nil) (fun s H C cl fp => pf_ix (fix_d2 hr.u1) (pf_ix (fix_d2 hr.u1) (pf_var 0) (pf_var 3)) (pf_var 4))) (pf_nil))))) (pfs_one (pfs_ret (pf_bl))) (pfs_nil))))
    (pfs_one (pfs_ret (pf_bl)))
theorem sc_nears_among : FnScope ["rows", "some", "place", "one"] ["rows", "some", "place"] (defScope s_nears_among) := ⟨rfl, rfl, rfl, by decide +kernel, rfl, by decide +kernel, by decide +kernel⟩
theorem ok_nears_among (T : TxOk fa fn K mg base) : Df P w K mg base "nears_among" 1 ["rows", "some", "place"] [false, false, false] m_nears_among := by
  refine dfOk (bd := b_nears_among) T 14 14 sc_nears_among (by decide) (fun _ _ _ _ _ _ us hl => match us, hl with | [_, _, _], _ => rfl) ?_
  intro f cdv A outer s H vs E hr
  have sc := sc_nears_among
  exact pfs_one (pfs_ret (pf_lc (own := [("one", 3)]) rfl sc.nd (pfi_seq (pf_var 1)) (blkOk_by (by rfl)) (fun s H C cl fp => pfg_nm sc.nd) (fun s H C cl fp => pfts_one (pft_B (pf_ix (fix_d2 hr.u1) (pf_ix (fix_d2 hr.u1) (pf_var 0) (pf_var 2)) (pf_var 3)))) (fun s H C cl fp => pf_var 3)))
theorem sc_foldable : FnScope ["rows", "left", "place"] ["rows", "left"] (defScope s_foldable) := ⟨rfl, rfl, rfl, by decide +kernel, rfl, by decide +kernel, by decide +kernel⟩
theorem ok_foldable (T : TxOk fa fn K mg base) : Df P w K mg base "foldable" 2 ["rows", "left"] [false, false] m_foldable := by
  refine dfOk (bd := b_foldable) T 15 15 sc_foldable (by decide) (fun _ _ _ _ _ _ us hl => match us, hl with | [_, _], _ => rfl) ?_
  intro f cdv A outer s H vs E hr
  have sc := sc_foldable
  exact pfs_cons (pfs_for (ws := [2]) (wp := [2]) (passes_of rfl) rfl (pfi_seq (pf_var 1)) (pfg_nm sc.nd) (pfs_one (pfs_if (pft_B (pf_callD (ok_all_tied T) (hr.mono (by decide)) (fun σ => passAt (takes_of rfl rfl rfl rfl) σ) (pf_cons (pf_var 0) (pf_cons (pf_callD (ok_nears_among T) (hr.mono (by decide)) (fun σ => passAt (takes_of rfl rfl rfl rfl) σ) (pf_cons (pf_var 0) (pf_cons (pf_var 1) (pf_cons (pf_var 2) (pf_nil))))) (pf_nil))))) (pfs_one (pfs_ret (pf_var 2))) (pfs_nil))))
    (pfs_one (pfs_ret (pf_non)))
theorem sc_folded : FnScope ["rows", "left", "order", "place", "one"] ["rows", "left"] (defScope s_folded) := ⟨rfl, rfl, rfl, by decide +kernel, rfl, by decide +kernel, by decide +kernel⟩
theorem ok_folded (T : TxOk fa fn K mg base) : Df P w K mg base "folded" 3 ["rows", "left"] [false, false] m_folded := by
  refine dfOk (bd := b_folded) T 16 16 sc_folded (by decide) (fun _ _ _ _ _ _ us hl => match us, hl with | [_, _], _ => rfl) ?_
  intro f cdv A outer s H vs E hr
  have sc := sc_folded
  exact pfs_cons (pfs_set (i := 2) sc.nd (pf_lst (pf_nil)))
    (pfs_cons (pfs_set (i := 3) sc.nd (pf_callD (ok_foldable T) (hr.mono (by decide)) (fun σ => passAt (takes_of rfl rfl rfl rfl) σ) (pf_cons (pf_var 0) (pf_cons (pf_var 1) (pf_nil)))))
    (pfs_cons (pfs_while (wp := [4]) (passes_of rfl) (pft_cmp fop_isNot (pf_var 3) (pf_non) (nomark _)) (pfs_cons (pfs_expr (pf_lm 2 PySem.F.slot_list_append PySem.F.type_list_append fm_append (pf_cons (pf_var 3) (pf_nil)) (pv 2)))
    (pfs_cons (pfs_setLc (own := [("one", 4)]) rfl sc.nd rfl (pfi_seq (pf_var 1)) (blkOk_by (by rfl)) (fun s H C cl fp => pfg_nm sc.nd) (fun s H C cl fp => pfts_one (pft_cmp (fop_ne hr.u64) (pf_var 4) (pf_var 3) (nomark _))) (fun s H C cl fp => pf_var 4))
    (pfs_one (pfs_set (i := 3) sc.nd (pf_callD (ok_foldable T) (hr.mono (by decide)) (fun σ => passAt (takes_of rfl rfl rfl rfl) σ) (pf_cons (pf_var 0) (pf_cons (pf_var 1) (pf_nil)))))))))
    (pfs_one (pfs_ret (pf_tup (pf_cons (pf_var 2) (pf_cons (pf_var 1) (pf_nil))))))))
theorem sc_walked_back : FnScope ["ahead", "last", "found"] ["ahead", "last"] (defScope s_walked_back) := ⟨rfl, rfl, rfl, by decide +kernel, rfl, by decide +kernel, by decide +kernel⟩
theorem ok_walked_back (T : TxOk fa fn K mg base) : Df P w K mg base "walked_back" 1 ["ahead", "last"] [true, false] m_walked_back := by
  refine dfOk (bd := b_walked_back) T 17 17 sc_walked_back (by decide) (fun _ _ _ _ _ _ us hl => match us, hl with | [_, _], _ => rfl) ?_
  intro f cdv A outer s H vs E hr
  have sc := sc_walked_back
  exact pfs_cons (pfs_set (i := 2) sc.nd (pf_lst (pf_cons (pf_var 1) (pf_nil))))
    (pfs_cons (pfs_while (wp := []) (passes_of rfl) (pft_cmp fop_isNot (pf_ix (fix_d2 hr.u1) (pf_var 0) (pf_ix (fix_d2 hr.u1) (pf_var 2) (pf_un fun_neg (pf_int)))) (pf_non) (nomark _)) (pfs_one (pfs_expr (pf_lm 2 PySem.F.slot_list_append PySem.F.type_list_append fm_append (pf_cons (pf_ix (fix_d2 hr.u1) (pf_var 0) (pf_ix (fix_d2 hr.u1) (pf_var 2) (pf_un fun_neg (pf_int)))) (pf_nil)) (pv 2)))))
    (pfs_one (pfs_ret (pf_rev (pf_var 2)))))
theorem sc_shortest_walk : FnScope ["rows", "free", "first", "last", "ahead", "level", "following", "place", "one"] ["rows", "free", "first", "last"] (defScope s_shortest_walk) := ⟨rfl, rfl, rfl, by decide +kernel, rfl, by decide +kernel, by decide +kernel⟩
theorem ok_shortest_walk (T : TxOk fa fn K mg base) : Df P w K mg base "shortest_walk" 2 ["rows", "free", "first", "last"] [false, false, false, false] m_shortest_walk := by
  refine dfOk (bd := b_shortest_walk) T 18 18 sc_shortest_walk (by decide) (fun _ _ _ _ _ _ us hl => match us, hl with | [_, _, _, _], _ => rfl) ?_
  intro f cdv A outer s H vs E hr
  have sc := sc_shortest_walk
  exact pfs_cons (pfs_set (i := 4) sc.nd (pf_disp1 (pf_var 2) (pf_non)))
    (pfs_cons (pfs_set (i := 5) sc.nd (pf_lst (pf_cons (pf_var 2) (pf_nil))))
    (pfs_cons (pfs_while (wp := [6, 7, 8]) (passes_of rfl) (pft_W (pfw_and (pft_cmp (fop_ne hr.u64) (pf_var 5) (pf_lst (pf_nil)) (nomark _)) (pfw_and1 (pft_cmp (fop_notInK hr.u65) (pf_var 3) (pf_var 4) (by rfl))))) (pfs_cons (pfs_set (i := 6) sc.nd (pf_lst (pf_nil)))
    (pfs_cons (pfs_for (ws := [7]) (wp := [7, 8]) (passes_of rfl) rfl (pfi_seq (pf_var 5)) (pfg_nm sc.nd) (pfs_one (pfs_for (ws := [8]) (wp := [8]) (passes_of rfl) rfl (pfi_seq (pf_callD (ok_nears_among T) (hr.mono (by decide)) (fun σ => passAt (takes_of rfl rfl rfl rfl) σ) (pf_cons (pf_var 0) (pf_cons (pf_op fop_add (pf_var 1) (pf_lst (pf_cons (pf_var 3) (pf_nil)))) (pf_cons (pf_var 7) (pf_nil)))))) (pfg_nm sc.nd) (pfs_one (pfs_if (pft_cmp (fop_notInK hr.u65) (pf_var 8) (pf_var 4) (by rfl)) (pfs_cons (pfs_setD 4 hr.u1 (pf_var 7) (pv 4) (pf_var 8))
    (pfs_one (pfs_expr (pf_lm 6 PySem.F.slot_list_append PySem.F.type_list_append fm_append (pf_cons (pf_var 8) (pf_nil)) (pv 6))))) (pfs_nil))))))
    (pfs_one (pfs_set (i := 5) sc.nd (pf_var 6))))))
    (pfs_cons (pfs_if (pft_cmp (fop_notInK hr.u65) (pf_var 3) (pf_var 4) (by rfl)) (pfs_one (pfs_ret (pf_non))) (pfs_nil))
    (pfs_one (pfs_ret (pf_callD (ok_walked_back T) (hr.mono (by decide)) (fun σ => passAt (takes_of rfl rfl rfl rfl) σ) (pf_cons (pf_var 4) (pf_cons (pf_var 3) (pf_nil)))))))))
theorem sc_ring_at : FnScope ["rows", "left", "place", "nears", "free", "one", "at", "first", "last", "walk"] ["rows", "left", "place"] (defScope s_ring_at) := ⟨rfl, rfl, rfl, by decide +kernel, rfl, by decide +kernel, by decide +kernel⟩
theorem ok_ring_at (T : TxOk fa fn K mg base) : Df P w K mg base "ring_at" 3 ["rows", "left", "place"] [false, false, false] m_ring_at := by
  refine dfOk (bd := b_ring_at) T 19 19 sc_ring_at (by decide) (fun _ _ _ _ _ _ us hl => match us, hl with | [_, _, _], _ => rfl) ?_
  intro f cdv A outer s H vs E hr
  have sc := sc_ring_at
  exact pfs_cons (pfs_set (i := 3) sc.nd (pf_callD (ok_nears_among T) (hr.mono (by decide)) (fun σ => passAt (takes_of rfl rfl rfl rfl) σ) (pf_cons (pf_var 0) (pf_cons (pf_var 1) (pf_cons (pf_var 2) (pf_nil))))))
    (pfs_cons (pfs_setLc (own := [("one", 5)]) rfl sc.nd rfl (pfi_seq (pf_var 1)) (blkOk_by (by rfl)) (fun s H C cl fp => pfg_nm sc.nd) (fun s H C cl fp => pfts_one (pft_W (pfw_and (pft_cmp (fop_ne hr.u64) (pf_var 5) (pf_var 2) (nomark _)) (pfw_and1 (pft_not (pft_B (pf_ix (fix_d2 hr.u1) (pf_ix (fix_d2 hr.u1) (pf_var 0) (pf_var 2)) (pf_var 5)))))))) (fun s H C cl fp => pf_var 5))
    (pfs_cons (pfs_for (ws := [6, 7]) (wp := [6, 7, 8, 9]) (passes_of rfl) rfl (pfi_enum rfl (T.free 77) (pf_cons (pf_var 3) pf_nil)) (pfg_tup rfl (pfgs_cons (pfg_nm sc.nd) (pfgs_cons (pfg_nm sc.nd) (pfgs_nil))) rfl rfl tp2) (pfs_one (pfs_for (ws := [8]) (wp := [8, 9]) (passes_of rfl) rfl (pfi_seq (pf_sl (pf_var 3) (pfo_some (pf_op fop_add (pf_var 6) (pf_int))) (pfo_none))) (pfg_nm sc.nd) (pfs_one (pfs_if (pft_not (pft_B (pf_ix (fix_d2 hr.u1) (pf_ix (fix_d2 hr.u1) (pf_var 0) (pf_var 7)) (pf_var 8)))) (pfs_cons (pfs_set (i := 9) sc.nd (pf_callD (ok_shortest_walk T) (hr.mono (by decide)) (fun σ => passAt (takes_of rfl rfl rfl rfl) σ) (pf_cons (pf_var 0) (pf_cons (pf_var 4) (pf_cons (pf_var 7) (pf_cons (pf_var 8) (pf_nil)))))))
    (pfs_one (pfs_if (pft_cmp fop_isNot (pf_var 9) (pf_non) (nomark _)) (pfs_one (pfs_ret (pf_op fop_add (pf_lst (pf_cons (pf_var 2) (pf_nil))) (pf_var 9)))) (pfs_nil)))) (pfs_nil))))))
    (pfs_one (pfs_ret (pf_non)))))
theorem sc_ring_among : FnScope ["rows", "left", "place", "found"] ["rows", "left"] (defScope s_ring_among) := ⟨rfl, rfl, rfl, by decide +kernel, rfl, by decide +kernel, by decide +kernel⟩
theorem ok_ring_among (T : TxOk fa fn K mg base) : Df P w K mg base "ring_among" 4 ["rows", "left"] [false, false] m_ring_among := by
  refine dfOk (bd := b_ring_among) T 20 20 sc_ring_among (by decide) (fun _ _ _ _ _ _ us hl => match us, hl with | [_, _], _ => rfl) ?_
  intro f cdv A outer s H vs E hr
  have sc := sc_ring_among
  exact pfs_cons (pfs_for (ws := [2]) (wp := [2, 3]) (passes_of rfl) rfl (pfi_seq (pf_var 1)) (pfg_nm sc.nd) (pfs_cons (pfs_set (i := 3) sc.nd (pf_callD (ok_ring_at T) (hr.mono (by decide)) (fun σ => passAt (takes_of rfl rfl rfl rfl) σ) (pf_cons (pf_var 0) (pf_cons (pf_var 1) (pf_cons (pf_var 2) (pf_nil))))))
    (pfs_one (pfs_if (pft_cmp fop_isNot (pf_var 3) (pf_non) (nomark _)) (pfs_one (pfs_ret (pf_var 3))) (pfs_nil)))))
    (pfs_one (pfs_ret (pf_lst (pf_nil))))
theorem sc_fold_in : FnScope ["web", "rows", "order", "left"] ["web"] (defScope s_fold_in) := ⟨rfl, rfl, rfl, by decide +kernel, rfl, by decide +kernel, by decide +kernel⟩
theorem ok_fold_in (T : TxOk fa fn K mg base) : Df P w K mg base "fold_in" 5 ["web"] [false] m_fold_in := by
  refine dfOk (bd := b_fold_in) T 21 21 sc_fold_in (by decide) (fun _ _ _ _ _ _ us hl => match us, hl with | [_], _ => rfl) ?_
  intro f cdv A outer s H vs E hr
  have sc := sc_fold_in
  exact pfs_cons (pfs_set (i := 1) sc.nd (pf_callD (ok_rows_of T) (hr.mono (by decide)) (fun σ => passAt (takes_of rfl rfl rfl rfl) σ) (pf_cons (pf_var 0) (pf_nil))))
    (pfs_cons (pfs_unp (ws := [2, 3]) (pf_callD (ok_folded T) (hr.mono (by decide)) (fun σ => passAt (takes_of rfl rfl rfl rfl) σ) (pf_cons (pf_var 1) (pf_cons (pf_bty fb_list (T.free 78) bb_list (pf_cons (pf_callD (ok_all_places T) (hr.mono (by decide)) (fun σ => passAt (takes_of rfl rfl rfl rfl) σ) (pf_cons (pf_var 0) (pf_nil))) (pf_nil))) (pf_nil)))) (pfg_tup rfl (pfgs_cons (pfg_nm sc.nd) (pfgs_cons (pfg_nm sc.nd) (pfgs_nil))) rfl rfl tp2))
    (pfs_cons (pfs_if (pft_cmp (fop_eq hr.u64) (pf_var 3) (pf_lst (pf_nil)) (nomark _)) (pfs_one (pfs_ret (pf_tup (pf_cons (pf_str) (pf_cons (pf_bty fb_tuple (T.free 73) bb_tuple (pf_cons (pf_var 2) (pf_nil))) (pf_nil)))))) (pfs_nil))
    (pfs_one (pfs_ret (pf_tup (pf_cons (pf_str) (pf_cons (pf_callD (ok_ring_among T) (hr.mono (by decide)) (fun σ => passAt (takes_of rfl rfl rfl rfl) σ) (pf_cons (pf_var 1) (pf_cons (pf_var 3) (pf_nil)))) (pf_nil))))))))
theorem sc_fold : FnScope ["web"] ["web"] (defScope s_fold) := ⟨rfl, rfl, rfl, by decide +kernel, rfl, by decide +kernel, by decide +kernel⟩
theorem ok_fold (T : TxOk fa fn K mg base) : Df P w K mg base "fold" 7 ["web"] [false] m_fold := by
  refine dfOk (bd := b_fold) T 22 22 sc_fold (by decide) (fun _ _ _ _ _ _ us hl => match us, hl with | [_], _ => rfl) ?_
  intro f cdv A outer s H vs E hr
  have sc := sc_fold
  exact pfs_cons (pfs_expr (pf_callD (ok_need_web T) (hr.mono (by decide)) (fun σ => passAt (takes_of rfl rfl rfl rfl) σ) (pf_cons (pf_var 0) (pf_nil))))
    (pfs_one (pfs_ret (pf_callD (ok_fold_in T) (hr.mono (by decide)) (fun σ => passAt (takes_of rfl rfl rfl rfl) σ) (pf_cons (pf_var 0) (pf_nil)))))
theorem sc_is_set : FnScope ["web", "thing", "place"] ["web", "thing"] (defScope s_is_set) := ⟨rfl, rfl, rfl, by decide +kernel, rfl, by decide +kernel, by decide +kernel⟩
theorem ok_is_set (T : TxOk fa fn K mg base) : Df P w K mg base "is_set" 3 ["web", "thing"] [false, false] m_is_set := by
  refine dfOk (bd := b_is_set) T 23 23 sc_is_set (by decide) (fun _ _ _ _ _ _ us hl => match us, hl with | [_, _], _ => rfl) ?_
  intro f cdv A outer s H vs E hr
  have sc := sc_is_set
  exact pfs_cons (pfs_if (pft_W (pfw_or (pft_not (pft_B (pf_isinstT .tuple (pf_var 1) (T.free 74) (T.free 73) bb_tuple))) (pfw_or1 (pft_not (pft_B (pf_blt (fb_all rfl) (T.free 76) bb_all (pf_cons (pf_lc (own := [("place", 2)]) rfl sc.nd (pfi_seqT (pf_var 1)) (blkOk_by (by rfl)) (fun s H C cl fp => pfg_nm sc.nd) (fun s H C cl fp => pfts_nil) (fun s H C cl fp => pf_callD (ok_is_below T) (hr.mono (by decide)) pass0At (pf_cons (pf_var 2) (pf_cons (pf_ix (fix_d2 hr.u1) (pf_var 0) (pf_int)) (pf_nil))))) (pf_nil)))))))) (pfs_one (pfs_ret (pf_bl))) (pfs_nil))
    (pfs_one (pfs_ret (pf_callD (ok_is_rising T) (hr.mono (by decide)) (fun σ => passAt (takes_of rfl rfl rfl rfl) σ) (pf_cons (pf_var 1) (pf_nil)))))
theorem sc_need_set : FnScope ["web", "some"] ["web", "some"] (defScope s_need_set) := ⟨rfl, rfl, rfl, by decide +kernel, rfl, by decide +kernel, by decide +kernel⟩
theorem ok_need_set (T : TxOk fa fn K mg base) : Df P w K mg base "need_set" 4 ["web", "some"] [false, false] m_need_set := by
  refine dfOk (bd := b_need_set) T 24 24 sc_need_set (by decide) (fun _ _ _ _ _ _ us hl => match us, hl with | [_, _], _ => rfl) ?_
  intro f cdv A outer s H vs E hr
  have sc := sc_need_set
  exact pfs_one (pfs_if (pft_not (pft_B (pf_callD (ok_is_set T) (hr.mono (by decide)) (fun σ => passAt (takes_of rfl rfl rfl rfl) σ) (pf_cons (pf_var 0) (pf_cons (pf_var 1) (pf_nil)))))) (pfs_one (pfs_raise rfl (takes_of rfl rfl rfl rfl) (T.glo 60) (T.exc 61))) (pfs_nil))
theorem sc_pairs_of : FnScope ["some", "found", "at", "one", "other"] ["some"] (defScope s_pairs_of) := ⟨rfl, rfl, rfl, by decide +kernel, rfl, by decide +kernel, by decide +kernel⟩
theorem ok_pairs_of (T : TxOk fa fn K mg base) : Df P w K mg base "pairs_of" 1 ["some"] [false] m_pairs_of := by
  refine dfOk (bd := b_pairs_of) T 25 25 sc_pairs_of (by decide) (fun _ _ _ _ _ _ us hl => match us, hl with | [_], _ => rfl) ?_
  intro f cdv A outer s H vs E hr
  have sc := sc_pairs_of
  exact pfs_cons (pfs_set (i := 1) sc.nd (pf_lst (pf_nil)))
    (pfs_cons (pfs_for (ws := [2, 3]) (wp := [2, 3, 4]) (passes_of rfl) rfl (pfi_enum rfl (T.free 77) (pf_cons (pf_var 0) pf_nil)) (pfg_tup rfl (pfgs_cons (pfg_nm sc.nd) (pfgs_cons (pfg_nm sc.nd) (pfgs_nil))) rfl rfl tp2) (pfs_one (pfs_expr (pf_lm 1 PySem.F.slot_list_extend PySem.F.type_list_extend fm_extend (pf_cons (pf_lc (own := [("other", 4)]) rfl sc.nd (pfi_seq (pf_sl (pf_var 0) (pfo_some (pf_op fop_add (pf_var 2) (pf_int))) (pfo_none))) (blkOk_by (by rfl)) (fun s H C cl fp => pfg_nm sc.nd) (fun s H C cl fp => pfts_nil) (fun s H C cl fp => pf_tup (pf_cons (pf_var 3) (pf_cons (pf_var 4) (pf_nil))))) (pf_nil)) (pv 1)))))
    (pfs_one (pfs_ret (pf_var 1))))
theorem sc_web_of : FnScope ["n", "pairs", "pair"] ["n", "pairs"] (defScope s_web_of) := ⟨rfl, rfl, rfl, by decide +kernel, rfl, by decide +kernel, by decide +kernel⟩
theorem ok_web_of (T : TxOk fa fn K mg base) : Df P w K mg base "web_of" 1 ["n", "pairs"] [false, false] m_web_of := by
  refine dfOk (bd := b_web_of) T 26 26 sc_web_of (by decide) (fun _ _ _ _ _ _ us hl => match us, hl with | [_, _], _ => rfl) ?_
  intro f cdv A outer s H vs E hr
  have sc := sc_web_of
  exact pfs_one (pfs_ret (pf_tup (pf_cons (pf_var 0) (pf_cons (pf_bty fb_tuple (T.free 73) bb_tuple (pf_cons (pf_blt fb_sorted (T.free 72) bb_sorted (pf_cons (pf_lc (own := [("pair", 2)]) rfl sc.nd (pfi_seq (pf_var 1)) (blkOk_by (by rfl)) (fun s H C cl fp => pfg_nm sc.nd) (fun s H C cl fp => pfts_nil) (fun s H C cl fp => pf_tup (pf_cons (pf_blt (fb_minL rfl) (T.free 71) bb_min (pf_cons (pf_var 2) (pf_nil))) (pf_cons (pf_blt (fb_maxL rfl) (T.free 70) bb_max (pf_cons (pf_var 2) (pf_nil))) (pf_nil))))) (pf_nil))) (pf_nil))) (pf_nil)))))
theorem sc_tied_in : FnScope ["web", "one", "other"] ["web", "one", "other"] (defScope s_tied_in) := ⟨rfl, rfl, rfl, by decide +kernel, rfl, by decide +kernel, by decide +kernel⟩
theorem ok_tied_in (T : TxOk fa fn K mg base) : Df P w K mg base "tied_in" 1 ["web", "one", "other"] [false, false, false] m_tied_in := by
  refine dfOk (bd := b_tied_in) T 27 27 sc_tied_in (by decide) (fun _ _ _ _ _ _ us hl => match us, hl with | [_, _, _], _ => rfl) ?_
  intro f cdv A outer s H vs E hr
  have sc := sc_tied_in
  exact pfs_one (pfs_ret (pf_cmp (fop_inK hr.u65) (pf_tup (pf_cons (pf_blt (fb_min2 rfl) (T.free 71) bb_min (pf_cons (pf_var 1) (pf_cons (pf_var 2) (pf_nil)))) (pf_cons (pf_blt (fb_max2 rfl) (T.free 70) bb_max (pf_cons (pf_var 1) (pf_cons (pf_var 2) (pf_nil)))) (pf_nil)))) (pf_ix (fix_d2 hr.u1) (pf_var 0) (pf_int)) (by rfl)))
theorem sc_cut_in : FnScope ["web", "some", "pairs", "one", "other"] ["web", "some"] (defScope s_cut_in) := ⟨rfl, rfl, rfl, by decide +kernel, rfl, by decide +kernel, by decide +kernel⟩
theorem ok_cut_in (T : TxOk fa fn K mg base) : Df P w K mg base "cut_in" 2 ["web", "some"] [false, false] m_cut_in := by
  refine dfOk (bd := b_cut_in) T 28 28 sc_cut_in (by decide) (fun _ _ _ _ _ _ us hl => match us, hl with | [_, _], _ => rfl) ?_
  intro f cdv A outer s H vs E hr
  have sc := sc_cut_in
  exact pfs_cons (pfs_set (i := 2) sc.nd (pf_callD (ok_pairs_of T) (hr.mono (by decide)) (fun σ => passAt (takes_of rfl rfl rfl rfl) σ) (pf_cons (pf_tRg1 rfl (T.free 73) (T.free 68) (pf_blt fb_lenT (T.free 67) bb_len (pf_cons (pf_var 1) (pf_nil)))) (pf_nil))))
    (pfs_one (pfs_ret (pf_callD (ok_web_of T) (hr.mono (by decide)) (fun σ => passAt (takes_of rfl rfl rfl rfl) σ) (pf_cons (pf_blt fb_lenT (T.free 67) bb_len (pf_cons (pf_var 1) (pf_nil))) (pf_cons (pf_lc (own := [("one", 3), ("other", 4)]) rfl sc.nd (pfi_seq (pf_var 2)) (blkOk_by (by rfl)) (fun s H C cl fp => pfg_tup rfl (pfgs_cons (pfg_nm sc.nd) (pfgs_cons (pfg_nm sc.nd) (pfgs_nil))) rfl rfl tp2) (fun s H C cl fp => pfts_one (pft_B (pf_callD (ok_tied_in T) (hr.mono (by decide)) pass0At (pf_cons (pf_var 0) (pf_cons (pf_ix (fix_dT hr.u1) (pf_var 1) (pf_var 3)) (pf_cons (pf_ix (fix_dT hr.u1) (pf_var 1) (pf_var 4)) (pf_nil))))))) (fun s H C cl fp => pf_tup (pf_cons (pf_var 3) (pf_cons (pf_var 4) (pf_nil))))) (pf_nil))))))
theorem sc_cut_down : FnScope ["web", "some"] ["web", "some"] (defScope s_cut_down) := ⟨rfl, rfl, rfl, by decide +kernel, rfl, by decide +kernel, by decide +kernel⟩
theorem ok_cut_down (T : TxOk fa fn K mg base) : Df P w K mg base "cut_down" 7 ["web", "some"] [false, false] m_cut_down := by
  refine dfOk (bd := b_cut_down) T 29 29 sc_cut_down (by decide) (fun _ _ _ _ _ _ us hl => match us, hl with | [_, _], _ => rfl) ?_
  intro f cdv A outer s H vs E hr
  have sc := sc_cut_down
  exact pfs_cons (pfs_expr (pf_callD (ok_need_web T) (hr.mono (by decide)) (fun σ => passAt (takes_of rfl rfl rfl rfl) σ) (pf_cons (pf_var 0) (pf_nil))))
    (pfs_cons (pfs_expr (pf_callD (ok_need_set T) (hr.mono (by decide)) (fun σ => passAt (takes_of rfl rfl rfl rfl) σ) (pf_cons (pf_var 0) (pf_cons (pf_var 1) (pf_nil)))))
    (pfs_one (pfs_ret (pf_callD (ok_cut_in T) (hr.mono (by decide)) (fun σ => passAt (takes_of rfl rfl rfl rfl) σ) (pf_cons (pf_var 0) (pf_cons (pf_var 1) (pf_nil)))))))
theorem sc_is_order : FnScope ["web", "thing", "one"] ["web", "thing"] (defScope s_is_order) := ⟨rfl, rfl, rfl, by decide +kernel, rfl, by decide +kernel, by decide +kernel⟩
theorem ok_is_order (T : TxOk fa fn K mg base) : Df P w K mg base "is_order" 2 ["web", "thing"] [false, false] m_is_order := by
  refine dfOk (bd := b_is_order) T 30 30 sc_is_order (by decide) (fun _ _ _ _ _ _ us hl => match us, hl with | [_, _], _ => rfl) ?_
  intro f cdv A outer s H vs E hr
  have sc := sc_is_order
  exact pfs_cons (pfs_if (pft_W (pfw_or (pft_not (pft_B (pf_isinst .tuple (pf_var 1) (T.free 74) (T.free 73) bb_tuple))) (pfw_or1 (pft_not (pft_B (pf_blt (fb_all rfl) (T.free 76) bb_all (pf_cons (pf_lc (own := [("one", 2)]) rfl sc.nd (pfi_seq (pf_var 1)) (blkOk_by (by rfl)) (fun s H C cl fp => pfg_nm sc.nd) (fun s H C cl fp => pfts_nil) (fun s H C cl fp => pf_callD (ok_is_whole T) (hr.mono (by decide)) pass0At (pf_cons (pf_var 2) (pf_nil)))) (pf_nil)))))))) (pfs_one (pfs_ret (pf_bl))) (pfs_nil))
    (pfs_one (pfs_ret (pf_cmp (fop_eq hr.u64) (pf_blt fb_sorted (T.free 72) bb_sorted (pf_cons (pf_var 1) (pf_nil))) (pf_bty fb_list (T.free 78) bb_list (pf_cons (pf_callD (ok_all_places T) (hr.mono (by decide)) (fun σ => passAt (takes_of rfl rfl rfl rfl) σ) (pf_cons (pf_var 0) (pf_nil))) (pf_nil))) (nomark _))))
theorem sc_is_crowd_in : FnScope ["web", "some", "one", "other"] ["web", "some"] (defScope s_is_crowd_in) := ⟨rfl, rfl, rfl, by decide +kernel, rfl, by decide +kernel, by decide +kernel⟩
theorem ok_is_crowd_in (T : TxOk fa fn K mg base) : Df P w K mg base "is_crowd_in" 2 ["web", "some"] [false, false] m_is_crowd_in := by
  refine dfOk (bd := b_is_crowd_in) T 31 31 sc_is_crowd_in (by decide) (fun _ _ _ _ _ _ us hl => match us, hl with | [_, _], _ => rfl) ?_
  intro f cdv A outer s H vs E hr
  have sc := sc_is_crowd_in
  exact pfs_one (pfs_ret (pf_blt (fb_all rfl) (T.free 76) bb_all (pf_cons (pf_lc (own := [("one", 2), ("other", 3)]) rfl sc.nd (pfi_seq (pf_callD (ok_pairs_of T) (hr.mono (by decide)) (fun σ => passAt (takes_of rfl rfl rfl rfl) σ) (pf_cons (pf_var 1) (pf_nil)))) (blkOk_by (by rfl)) (fun s H C cl fp => pfg_tup rfl (pfgs_cons (pfg_nm sc.nd) (pfgs_cons (pfg_nm sc.nd) (pfgs_nil))) rfl rfl tp2) (fun s H C cl fp => pfts_nil) (fun s H C cl fp => pf_callD (ok_tied_in T) (hr.mono (by decide)) pass0At (pf_cons (pf_var 0) (pf_cons (pf_var 2) (pf_cons (pf_var 3) (pf_nil)))))) (pf_nil))))
theorem sc_behind_in : FnScope ["web", "order", "at", "one"] ["web", "order", "at"] (defScope s_behind_in) := ⟨rfl, rfl, rfl, by decide +kernel, rfl, by decide +kernel, by decide +kernel⟩
theorem ok_behind_in (T : TxOk fa fn K mg base) : Df P w K mg base "behind_in" 2 ["web", "order", "at"] [false, false, false] m_behind_in := by
  refine dfOk (bd := b_behind_in) T 32 32 sc_behind_in (by decide) (fun _ _ _ _ _ _ us hl => match us, hl with | [_, _, _], _ => rfl) ?_
  intro f cdv A outer s H vs E hr
  have sc := sc_behind_in
  exact pfs_one (pfs_ret (pf_bty fb_tuple (T.free 73) bb_tuple (pf_cons (pf_blt fb_sorted (T.free 72) bb_sorted (pf_cons (pf_lc (own := [("one", 3)]) rfl sc.nd (pfi_seq (pf_sl (pf_var 1) (pfo_some (pf_op fop_add (pf_var 2) (pf_int))) (pfo_none))) (blkOk_by (by rfl)) (fun s H C cl fp => pfg_nm sc.nd) (fun s H C cl fp => pfts_one (pft_B (pf_callD (ok_tied_in T) (hr.mono (by decide)) pass0At (pf_cons (pf_var 0) (pf_cons (pf_ix (fix_d2 hr.u1) (pf_var 1) (pf_var 2)) (pf_cons (pf_var 3) (pf_nil))))))) (fun s H C cl fp => pf_var 3)) (pf_nil))) (pf_nil))))
theorem sc_is_fold : FnScope ["web", "order", "at"] ["web", "order"] (defScope s_is_fold) := ⟨rfl, rfl, rfl, by decide +kernel, rfl, by decide +kernel, by decide +kernel⟩
theorem ok_is_fold (T : TxOk fa fn K mg base) : Df P w K mg base "is_fold" 7 ["web", "order"] [false, false] m_is_fold := by
  refine dfOk (bd := b_is_fold) T 33 33 sc_is_fold (by decide) (fun _ _ _ _ _ _ us hl => match us, hl with | [_, _], _ => rfl) ?_
  intro f cdv A outer s H vs E hr
  have sc := sc_is_fold
  exact pfs_cons (pfs_expr (pf_callD (ok_need_web T) (hr.mono (by decide)) (fun σ => passAt (takes_of rfl rfl rfl rfl) σ) (pf_cons (pf_var 0) (pf_nil))))
    (pfs_cons (pfs_if (pft_not (pft_B (pf_callD (ok_is_order T) (hr.mono (by decide)) (fun σ => passAt (takes_of rfl rfl rfl rfl) σ) (pf_cons (pf_var 0) (pf_cons (pf_var 1) (pf_nil)))))) (pfs_one (pfs_ret (pf_bl))) (pfs_nil))
    (pfs_one (pfs_ret (pf_blt (fb_all rfl) (T.free 76) bb_all (pf_cons (pf_lc (own := [("at", 2)]) rfl sc.nd (pfi_range1 rfl (T.free 68) (pf_cons (pf_blt fb_len (T.free 67) bb_len (pf_cons (pf_var 1) (pf_nil))) (pf_nil))) (blkOk_by (by rfl)) (fun s H C cl fp => pfg_nm sc.nd) (fun s H C cl fp => pfts_nil) (fun s H C cl fp => pf_callD (ok_is_crowd_in T) (hr.mono (by decide)) pass0At (pf_cons (pf_var 0) (pf_cons (pf_callD (ok_behind_in T) (hr.mono (by decide)) pass0At (pf_cons (pf_var 0) (pf_cons (pf_var 1) (pf_cons (pf_var 2) (pf_nil))))) (pf_nil))))) (pf_nil))))))
theorem sc_is_tied_as_ring : FnScope ["web", "some", "at", "one", "number", "other"] ["web", "some"] (defScope s_is_tied_as_ring) := ⟨rfl, rfl, rfl, by decide +kernel, rfl, by decide +kernel, by decide +kernel⟩
theorem ok_is_tied_as_ring (T : TxOk fa fn K mg base) : Df P w K mg base "is_tied_as_ring" 2 ["web", "some"] [false, false] m_is_tied_as_ring := by
  refine dfOk (bd := b_is_tied_as_ring) T 34 34 sc_is_tied_as_ring (by decide) (fun _ _ _ _ _ _ us hl => match us, hl with | [_, _], _ => rfl) ?_
  intro f cdv A outer s H vs E hr
  have sc := sc_is_tied_as_ring
  exact pfs_cons (pfs_for (ws := [2, 3]) (wp := [2, 3, 4, 5]) (passes_of rfl) rfl (pfi_enum rfl (T.free 77) (pf_cons (pf_var 1) pf_nil)) (pfg_tup rfl (pfgs_cons (pfg_nm sc.nd) (pfgs_cons (pfg_nm sc.nd) (pfgs_nil))) rfl rfl tp2) (pfs_one (pfs_for (ws := [4, 5]) (wp := [4, 5]) (passes_of rfl) rfl (pfi_enum rfl (T.free 77) (pf_cons (pf_sl (pf_var 1) (pfo_none) (pfo_some (pf_var 2))) pf_nil)) (pfg_tup rfl (pfgs_cons (pfg_nm sc.nd) (pfgs_cons (pfg_nm sc.nd) (pfgs_nil))) rfl rfl tp2) (pfs_one (pfs_if (pft_cmp (fop_ne hr.u64) (pf_callD (ok_tied_in T) (hr.mono (by decide)) (fun σ => passAt (takes_of rfl rfl rfl rfl) σ) (pf_cons (pf_var 0) (pf_cons (pf_var 3) (pf_cons (pf_var 5) (pf_nil))))) (pf_or (pf_cmp (fop_eq hr.u64) (pf_op fop_sub (pf_var 2) (pf_var 4)) (pf_int) (nomark _)) (pf_one (pf_cmp (fop_eq hr.u64) (pf_op fop_sub (pf_var 2) (pf_var 4)) (pf_op fop_sub (pf_blt fb_len (T.free 67) bb_len (pf_cons (pf_var 1) (pf_nil))) (pf_int)) (nomark _)))) (nomark _)) (pfs_one (pfs_ret (pf_bl))) (pfs_nil))))))
    (pfs_one (pfs_ret (pf_bl)))
theorem sc_is_bare_ring : FnScope ["web", "some", "one", "at"] ["web", "some"] (defScope s_is_bare_ring) := ⟨rfl, rfl, rfl, by decide +kernel, rfl, by decide +kernel, by decide +kernel⟩
theorem ok_is_bare_ring (T : TxOk fa fn K mg base) : Df P w K mg base "is_bare_ring" 7 ["web", "some"] [false, false] m_is_bare_ring := by
  refine dfOk (bd := b_is_bare_ring) T 35 35 sc_is_bare_ring (by decide) (fun _ _ _ _ _ _ us hl => match us, hl with | [_, _], _ => rfl) ?_
  intro f cdv A outer s H vs E hr
  have sc := sc_is_bare_ring
  exact pfs_cons (pfs_expr (pf_callD (ok_need_web T) (hr.mono (by decide)) (fun σ => passAt (takes_of rfl rfl rfl rfl) σ) (pf_cons (pf_var 0) (pf_nil))))
    (pfs_cons (pfs_if (pft_W (pfw_or (pft_cmp (fop_lt hr.units0) (pf_blt fb_len (T.free 67) bb_len (pf_cons (pf_var 1) (pf_nil))) (pf_int) (nomark _)) (pfw_or1 (pft_not (pft_B (pf_blt (fb_all rfl) (T.free 76) bb_all (pf_cons (pf_lc (own := [("one", 2)]) rfl sc.nd (pfi_seq (pf_var 1)) (blkOk_by (by rfl)) (fun s H C cl fp => pfg_nm sc.nd) (fun s H C cl fp => pfts_nil) (fun s H C cl fp => pf_callD (ok_is_below T) (hr.mono (by decide)) pass0At (pf_cons (pf_var 2) (pf_cons (pf_ix (fix_d2 hr.u1) (pf_var 0) (pf_int)) (pf_nil))))) (pf_nil)))))))) (pfs_one (pfs_ret (pf_bl))) (pfs_nil))
    (pfs_cons (pfs_if (pft_not (pft_B (pf_blt (fb_all rfl) (T.free 76) bb_all (pf_cons (pf_lc (own := [("at", 3)]) rfl sc.nd (pfi_range1 rfl (T.free 68) (pf_cons (pf_blt fb_len (T.free 67) bb_len (pf_cons (pf_var 1) (pf_nil))) (pf_nil))) (blkOk_by (by rfl)) (fun s H C cl fp => pfg_nm sc.nd) (fun s H C cl fp => pfts_nil) (fun s H C cl fp => pf_cmp (fop_notInK hr.u65) (pf_ix (fix_d2 hr.u1) (pf_var 1) (pf_var 3)) (pf_sl (pf_var 1) (pfo_none) (pfo_some (pf_var 3))) (by rfl))) (pf_nil))))) (pfs_one (pfs_ret (pf_bl))) (pfs_nil))
    (pfs_one (pfs_ret (pf_callD (ok_is_tied_as_ring T) (hr.mono (by decide)) (fun σ => passAt (takes_of rfl rfl rfl rfl) σ) (pf_cons (pf_var 0) (pf_cons (pf_var 1) (pf_nil))))))))
theorem sc_least_unlike : FnScope ["numbers", "found"] ["numbers"] (defScope s_least_unlike) := ⟨rfl, rfl, rfl, by decide +kernel, rfl, by decide +kernel, by decide +kernel⟩
theorem ok_least_unlike (T : TxOk fa fn K mg base) : Df P w K mg base "least_unlike" 1 ["numbers"] [false] m_least_unlike := by
  refine dfOk (bd := b_least_unlike) T 36 36 sc_least_unlike (by decide) (fun _ _ _ _ _ _ us hl => match us, hl with | [_], _ => rfl) ?_
  intro f cdv A outer s H vs E hr
  have sc := sc_least_unlike
  exact pfs_cons (pfs_set (i := 1) sc.nd (pf_int))
    (pfs_cons (pfs_while (wp := []) (passes_of rfl) (pft_cmp (fop_inK hr.u65) (pf_var 1) (pf_var 0) (by rfl)) (pfs_one (pfs_set (i := 1) sc.nd (pf_op fop_add (pf_var 1) (pf_int)))))
    (pfs_one (pfs_ret (pf_var 1))))
theorem sc_hues_behind : FnScope ["web", "order", "hues", "at", "one", "place"] ["web", "order"] (defScope s_hues_behind) := ⟨rfl, rfl, rfl, by decide +kernel, rfl, by decide +kernel, by decide +kernel⟩
theorem ok_hues_behind (T : TxOk fa fn K mg base) : Df P w K mg base "hues_behind" 3 ["web", "order"] [false, false] m_hues_behind := by
  refine dfOk (bd := b_hues_behind) T 37 37 sc_hues_behind (by decide) (fun _ _ _ _ _ _ us hl => match us, hl with | [_, _], _ => rfl) ?_
  intro f cdv A outer s H vs E hr
  have sc := sc_hues_behind
  exact pfs_cons (pfs_set (i := 2) sc.nd (pf_emD))
    (pfs_cons (pfs_for (ws := [3]) (wp := [3, 4]) (passes_of rfl) rfl (pfi_range3 rfl (T.free 68) (pf_cons (pf_op fop_sub (pf_blt fb_len (T.free 67) bb_len (pf_cons (pf_var 1) (pf_nil))) (pf_int)) (pf_cons (pf_un fun_neg (pf_int)) (pf_cons (pf_un fun_neg (pf_int)) (pf_nil))))) (pfg_nm sc.nd) (pfs_one (pfs_setD 2 hr.u1 (pf_callD (ok_least_unlike T) (hr.mono (by decide)) (fun σ => passAt (takes_of rfl rfl rfl rfl) σ) (pf_cons (pf_lc (own := [("one", 4)]) rfl sc.nd (pfi_seq (pf_callD (ok_behind_in T) (hr.mono (by decide)) (fun σ => passAt (takes_of rfl rfl rfl rfl) σ) (pf_cons (pf_var 0) (pf_cons (pf_var 1) (pf_cons (pf_var 3) (pf_nil)))))) (blkOk_by (by rfl)) (fun s H C cl fp => pfg_nm sc.nd) (fun s H C cl fp => pfts_nil) (fun s H C cl fp => pf_ix (fix_d2 hr.u1) (pf_var 2) (pf_var 4))) (pf_nil))) (pv 2) (pf_ix (fix_d2 hr.u1) (pf_var 1) (pf_var 3)))))
    (pfs_one (pfs_ret (pf_bty fb_tuple (T.free 73) bb_tuple (pf_cons (pf_lc (own := [("place", 5)]) rfl sc.nd (pfi_seq (pf_callD (ok_all_places T) (hr.mono (by decide)) (fun σ => passAt (takes_of rfl rfl rfl rfl) σ) (pf_cons (pf_var 0) (pf_nil)))) (blkOk_by (by rfl)) (fun s H C cl fp => pfg_nm sc.nd) (fun s H C cl fp => pfts_nil) (fun s H C cl fp => pf_ix (fix_d2 hr.u1) (pf_var 2) (pf_var 5))) (pf_nil))))))
theorem sc_greatest_of_fold : FnScope ["web", "order", "found", "at", "place", "crowd"] ["web", "order"] (defScope s_greatest_of_fold) := ⟨rfl, rfl, rfl, by decide +kernel, rfl, by decide +kernel, by decide +kernel⟩
theorem ok_greatest_of_fold (T : TxOk fa fn K mg base) : Df P w K mg base "greatest_of_fold" 3 ["web", "order"] [false, false] m_greatest_of_fold := by
  refine dfOk (bd := b_greatest_of_fold) T 38 38 sc_greatest_of_fold (by decide) (fun _ _ _ _ _ _ us hl => match us, hl with | [_, _], _ => rfl) ?_
  intro f cdv A outer s H vs E hr
  have sc := sc_greatest_of_fold
  exact pfs_cons (pfs_set (i := 2) sc.nd (pf_tup (pf_nil)))
    (pfs_cons (pfs_for (ws := [3, 4]) (wp := [3, 4, 5]) (passes_of rfl) rfl (pfi_enum rfl (T.free 77) (pf_cons (pf_var 1) pf_nil)) (pfg_tup rfl (pfgs_cons (pfg_nm sc.nd) (pfgs_cons (pfg_nm sc.nd) (pfgs_nil))) rfl rfl tp2) (pfs_cons (pfs_set (i := 5) sc.nd (pf_bty fb_tuple (T.free 73) bb_tuple (pf_cons (pf_blt fb_sorted (T.free 72) bb_sorted (pf_cons (pf_op fop_add (pf_callD (ok_behind_in T) (hr.mono (by decide)) (fun σ => passAt (takes_of rfl rfl rfl rfl) σ) (pf_cons (pf_var 0) (pf_cons (pf_var 1) (pf_cons (pf_var 3) (pf_nil))))) (pf_tup (pf_cons (pf_var 4) (pf_nil)))) (pf_nil))) (pf_nil))))
    (pfs_one (pfs_if (pft_cmp fop_gt (pf_blt fb_len (T.free 67) bb_len (pf_cons (pf_var 5) (pf_nil))) (pf_blt fb_len (T.free 67) bb_len (pf_cons (pf_var 2) (pf_nil))) (nomark _)) (pfs_one (pfs_set (i := 2) sc.nd (pf_var 5))) (pfs_nil)))))
    (pfs_one (pfs_ret (pf_var 2))))
theorem sc_by_fold : FnScope ["web", "told", "hues", "crowd"] ["web"] (defScope s_by_fold) := ⟨rfl, rfl, rfl, by decide +kernel, rfl, by decide +kernel, by decide +kernel⟩
theorem ok_by_fold (T : TxOk fa fn K mg base) : Df P w K mg base "by_fold" 8 ["web"] [false] m_by_fold := by
  refine dfOk (bd := b_by_fold) T 39 39 sc_by_fold (by decide) (fun _ _ _ _ _ _ us hl => match us, hl with | [_], _ => rfl) ?_
  intro f cdv A outer s H vs E hr
  have sc := sc_by_fold
  exact pfs_cons (pfs_set (i := 1) sc.nd (pf_callD (ok_fold T) (hr.mono (by decide)) (fun σ => passAt (takes_of rfl rfl rfl rfl) σ) (pf_cons (pf_var 0) (pf_nil))))
    (pfs_cons (pfs_if (pft_cmp (fop_eq hr.u64) (pf_ix (fix_d2 hr.u1) (pf_var 1) (pf_int)) (pf_str) (nomark _)) (pfs_one (pfs_raise rfl (takes_of rfl rfl rfl rfl) (T.glo 62) (T.exc 63))) (pfs_nil))
    (pfs_cons (pfs_set (i := 2) sc.nd (pf_callD (ok_hues_behind T) (hr.mono (by decide)) (fun σ => passAt (takes_of rfl rfl rfl rfl) σ) (pf_cons (pf_var 0) (pf_cons (pf_ix (fix_d2 hr.u1) (pf_var 1) (pf_int)) (pf_nil)))))
    (pfs_cons (pfs_set (i := 3) sc.nd (pf_callD (ok_greatest_of_fold T) (hr.mono (by decide)) (fun σ => passAt (takes_of rfl rfl rfl rfl) σ) (pf_cons (pf_var 0) (pf_cons (pf_ix (fix_d2 hr.u1) (pf_var 1) (pf_int)) (pf_nil)))))
    (pfs_one (pfs_ret (pf_tup (pf_cons (pf_blt fb_len (T.free 67) bb_len (pf_cons (pf_var 3) (pf_nil))) (pf_cons (pf_var 2) (pf_cons (pf_var 3) (pf_nil))))))))))
theorem sc_first_greatest : FnScope ["sets", "most", "some"] ["sets"] (defScope s_first_greatest) := ⟨rfl, rfl, rfl, by decide +kernel, rfl, by decide +kernel, by decide +kernel⟩
theorem ok_first_greatest (T : TxOk fa fn K mg base) : Df P w K mg base "first_greatest" 1 ["sets"] [false] m_first_greatest := by
  refine dfOk (bd := b_first_greatest) T 40 40 sc_first_greatest (by decide) (fun _ _ _ _ _ _ us hl => match us, hl with | [_], _ => rfl) ?_
  intro f cdv A outer s H vs E hr
  have sc := sc_first_greatest
  exact pfs_cons (pfs_set (i := 1) sc.nd (pf_blt (fb_maxL rfl) (T.free 70) bb_max (pf_cons (pf_lc (own := [("some", 2)]) rfl sc.nd (pfi_seq (pf_var 0)) (blkOk_by (by rfl)) (fun s H C cl fp => pfg_nm sc.nd) (fun s H C cl fp => pfts_nil) (fun s H C cl fp => pf_blt fb_len (T.free 67) bb_len (pf_cons (pf_var 2) (pf_nil)))) (pf_nil))))
    (pfs_one (pfs_ret (pf_ix (fix_d2 hr.u1) (pf_lc (own := [("some", 2)]) rfl sc.nd (pfi_seq (pf_var 0)) (blkOk_by (by rfl)) (fun s H C cl fp => pfg_nm sc.nd) (fun s H C cl fp => pfts_one (pft_cmp (fop_eq hr.u64) (pf_blt fb_len (T.free 67) bb_len (pf_cons (pf_var 2) (pf_nil))) (pf_var 1) (nomark _))) (fun s H C cl fp => pf_var 2)) (pf_int))))
theorem sc_full_from : FnScope ["rows", "tied", "chosen", "left", "shut", "found", "at", "place", "later", "one", "ahead"] ["rows", "tied", "chosen", "left", "shut"] (defScope s_full_from) := ⟨rfl, rfl, rfl, by decide +kernel, rfl, by decide +kernel, by decide +kernel⟩
theorem ok_full_from (T : TxOk fa fn K mg base) : ∀ n : Nat, Df P w K mg base "full_from" (0 + n) ["rows", "tied", "chosen", "left", "shut"] [false, false, false, false, false] (m_full_from n)
  | 0 => dfNone T 41 41 (fun _ _ _ _ _ _ us hl => match us, hl with | [_, _, _, _, _], _ => rfl)
  | n + 1 => by
    have ih := ok_full_from T n
    refine dfOk (k := 0 + n) (bd := b_full_from (m_full_from n)) T 41 41 sc_full_from (by decide) (fun _ _ _ _ _ _ us hl => match us, hl with | [_, _, _, _, _], _ => rfl) ?_
    intro f cdv A outer s H vs E hr
    have sc := sc_full_from
    exact pfs_cons (pfs_if (pft_W (pfw_and (pft_cmp (fop_eq hr.u64) (pf_var 3) (pf_lst (pf_nil)) (nomark _)) (pfw_and1 (pft_cmp (fop_eq hr.u64) (pf_var 4) (pf_lst (pf_nil)) (nomark _))))) (pfs_one (pfs_ret (pf_lst (pf_cons (pf_var 2) (pf_nil))))) (pfs_nil))
        (pfs_cons (pfs_set (i := 5) sc.nd (pf_lst (pf_nil)))
        (pfs_cons (pfs_for (ws := [6, 7]) (wp := [6, 7, 8, 9, 10]) (passes_of rfl) rfl (pfi_enum rfl (T.free 77) (pf_cons (pf_var 3) pf_nil)) (pfg_tup rfl (pfgs_cons (pfg_nm sc.nd) (pfgs_cons (pfg_nm sc.nd) (pfgs_nil))) rfl rfl tp2) (pfs_cons (pfs_setLc (own := [("one", 9)]) rfl sc.nd rfl (pfi_seq (pf_sl (pf_var 3) (pfo_some (pf_op fop_add (pf_var 6) (pf_int))) (pfo_none))) (blkOk_by (by rfl)) (fun s H C cl fp => pfg_nm sc.nd) (fun s H C cl fp => pfts_one (pft_cmp (fop_eq hr.u64) (pf_ix (fix_d2 hr.u1) (pf_ix (fix_d2 hr.u1) (pf_var 0) (pf_var 7)) (pf_var 9)) (pf_var 1) (nomark _))) (fun s H C cl fp => pf_var 9))
        (pfs_cons (pfs_setLc (own := [("one", 9)]) rfl sc.nd rfl (pfi_seq (pf_op fop_add (pf_var 4) (pf_sl (pf_var 3) (pfo_none) (pfo_some (pf_var 6))))) (blkOk_by (by rfl)) (fun s H C cl fp => pfg_nm sc.nd) (fun s H C cl fp => pfts_one (pft_cmp (fop_eq hr.u64) (pf_ix (fix_d2 hr.u1) (pf_ix (fix_d2 hr.u1) (pf_var 0) (pf_var 7)) (pf_var 9)) (pf_var 1) (nomark _))) (fun s H C cl fp => pf_var 9))
        (pfs_one (pfs_expr (pf_lm 5 PySem.F.slot_list_extend PySem.F.type_list_extend fm_extend (pf_cons (pf_callD ih (hr.mono (Nat.le_refl _)) (fun σ => passAt (takes_of rfl rfl rfl rfl) σ) (pf_cons (pf_var 0) (pf_cons (pf_var 1) (pf_cons (pf_op fop_add (pf_var 2) (pf_tup (pf_cons (pf_var 7) (pf_nil)))) (pf_cons (pf_var 8) (pf_cons (pf_var 10) (pf_nil))))))) (pf_nil)) (pv 5)))))))
        (pfs_one (pfs_ret (pf_var 5)))))
theorem sc_full_crowds_in : FnScope ["web"] ["web"] (defScope s_full_crowds_in) := ⟨rfl, rfl, rfl, by decide +kernel, rfl, by decide +kernel, by decide +kernel⟩
theorem ok_full_crowds_in (T : TxOk fa fn K mg base) : Df P w K mg base "full_crowds_in" 17 ["web"] [false] m_full_crowds_in := by
  refine dfOk (bd := b_full_crowds_in) T 42 42 sc_full_crowds_in (by decide) (fun _ _ _ _ _ _ us hl => match us, hl with | [_], _ => rfl) ?_
  intro f cdv A outer s H vs E hr
  have sc := sc_full_crowds_in
  exact pfs_one (pfs_ret (pf_blt fb_sorted (T.free 72) bb_sorted (pf_cons (pf_callD (ok_full_from T 16) (hr.mono (by decide)) (fun σ => passAt (takes_of rfl rfl rfl rfl) σ) (pf_cons (pf_callD (ok_rows_of T) (hr.mono (by decide)) (fun σ => passAt (takes_of rfl rfl rfl rfl) σ) (pf_cons (pf_var 0) (pf_nil))) (pf_cons (pf_bl) (pf_cons (pf_tup (pf_nil)) (pf_cons (pf_bty fb_list (T.free 78) bb_list (pf_cons (pf_callD (ok_all_places T) (hr.mono (by decide)) (fun σ => passAt (takes_of rfl rfl rfl rfl) σ) (pf_cons (pf_var 0) (pf_nil))) (pf_nil))) (pf_cons (pf_lst (pf_nil)) (pf_nil))))))) (pf_nil))))
theorem sc_greatest_crowd_in : FnScope ["web"] ["web"] (defScope s_greatest_crowd_in) := ⟨rfl, rfl, rfl, by decide +kernel, rfl, by decide +kernel, by decide +kernel⟩
theorem ok_greatest_crowd_in (T : TxOk fa fn K mg base) : Df P w K mg base "greatest_crowd_in" 18 ["web"] [false] m_greatest_crowd_in := by
  refine dfOk (bd := b_greatest_crowd_in) T 43 43 sc_greatest_crowd_in (by decide) (fun _ _ _ _ _ _ us hl => match us, hl with | [_], _ => rfl) ?_
  intro f cdv A outer s H vs E hr
  have sc := sc_greatest_crowd_in
  exact pfs_one (pfs_ret (pf_callD (ok_first_greatest T) (hr.mono (by decide)) (fun σ => passAt (takes_of rfl rfl rfl rfl) σ) (pf_cons (pf_callD (ok_full_crowds_in T) (hr.mono (by decide)) (fun σ => passAt (takes_of rfl rfl rfl rfl) σ) (pf_cons (pf_var 0) (pf_nil))) (pf_nil))))
theorem sc_greatest_crowd : FnScope ["web"] ["web"] (defScope s_greatest_crowd) := ⟨rfl, rfl, rfl, by decide +kernel, rfl, by decide +kernel, by decide +kernel⟩
theorem ok_greatest_crowd (T : TxOk fa fn K mg base) : Df P w K mg base "greatest_crowd" 19 ["web"] [false] m_greatest_crowd := by
  refine dfOk (bd := b_greatest_crowd) T 44 44 sc_greatest_crowd (by decide) (fun _ _ _ _ _ _ us hl => match us, hl with | [_], _ => rfl) ?_
  intro f cdv A outer s H vs E hr
  have sc := sc_greatest_crowd
  exact pfs_cons (pfs_expr (pf_callD (ok_need_web T) (hr.mono (by decide)) (fun σ => passAt (takes_of rfl rfl rfl rfl) σ) (pf_cons (pf_var 0) (pf_nil))))
    (pfs_one (pfs_ret (pf_callD (ok_greatest_crowd_in T) (hr.mono (by decide)) (fun σ => passAt (takes_of rfl rfl rfl rfl) σ) (pf_cons (pf_var 0) (pf_nil)))))
theorem sc_need_place : FnScope ["web", "place"] ["web", "place"] (defScope s_need_place) := ⟨rfl, rfl, rfl, by decide +kernel, rfl, by decide +kernel, by decide +kernel⟩
theorem ok_need_place (T : TxOk fa fn K mg base) : Df P w K mg base "need_place" 3 ["web", "place"] [false, false] m_need_place := by
  refine dfOk (bd := b_need_place) T 45 45 sc_need_place (by decide) (fun _ _ _ _ _ _ us hl => match us, hl with | [_, _], _ => rfl) ?_
  intro f cdv A outer s H vs E hr
  have sc := sc_need_place
  exact pfs_one (pfs_if (pft_not (pft_B (pf_callD (ok_is_below T) (hr.mono (by decide)) (fun σ => passAt (takes_of rfl rfl rfl rfl) σ) (pf_cons (pf_var 1) (pf_cons (pf_ix (fix_d2 hr.u1) (pf_var 0) (pf_int)) (pf_nil)))))) (pfs_one (pfs_raise rfl (takes_of rfl rfl rfl rfl) (T.glo 60) (T.exc 61))) (pfs_nil))
theorem sc_neighbours_in : FnScope ["web", "place", "other"] ["web", "place"] (defScope s_neighbours_in) := ⟨rfl, rfl, rfl, by decide +kernel, rfl, by decide +kernel, by decide +kernel⟩
theorem ok_neighbours_in (T : TxOk fa fn K mg base) : Df P w K mg base "neighbours_in" 2 ["web", "place"] [false, false] m_neighbours_in := by
  refine dfOk (bd := b_neighbours_in) T 46 46 sc_neighbours_in (by decide) (fun _ _ _ _ _ _ us hl => match us, hl with | [_, _], _ => rfl) ?_
  intro f cdv A outer s H vs E hr
  have sc := sc_neighbours_in
  exact pfs_one (pfs_ret (pf_bty fb_tuple (T.free 73) bb_tuple (pf_cons (pf_lc (own := [("other", 2)]) rfl sc.nd (pfi_seq (pf_callD (ok_all_places T) (hr.mono (by decide)) (fun σ => passAt (takes_of rfl rfl rfl rfl) σ) (pf_cons (pf_var 0) (pf_nil)))) (blkOk_by (by rfl)) (fun s H C cl fp => pfg_nm sc.nd) (fun s H C cl fp => pfts_one (pft_B (pf_callD (ok_tied_in T) (hr.mono (by decide)) pass0At (pf_cons (pf_var 0) (pf_cons (pf_var 1) (pf_cons (pf_var 2) (pf_nil))))))) (fun s H C cl fp => pf_var 2)) (pf_nil))))
theorem sc_neighbours : FnScope ["web", "place"] ["web", "place"] (defScope s_neighbours) := ⟨rfl, rfl, rfl, by decide +kernel, rfl, by decide +kernel, by decide +kernel⟩
theorem ok_neighbours (T : TxOk fa fn K mg base) : Df P w K mg base "neighbours" 7 ["web", "place"] [false, false] m_neighbours := by
  refine dfOk (bd := b_neighbours) T 47 47 sc_neighbours (by decide) (fun _ _ _ _ _ _ us hl => match us, hl with | [_, _], _ => rfl) ?_
  intro f cdv A outer s H vs E hr
  have sc := sc_neighbours
  exact pfs_cons (pfs_expr (pf_callD (ok_need_web T) (hr.mono (by decide)) (fun σ => passAt (takes_of rfl rfl rfl rfl) σ) (pf_cons (pf_var 0) (pf_nil))))
    (pfs_cons (pfs_expr (pf_callD (ok_need_place T) (hr.mono (by decide)) (fun σ => passAt (takes_of rfl rfl rfl rfl) σ) (pf_cons (pf_var 0) (pf_cons (pf_var 1) (pf_nil)))))
    (pfs_one (pfs_ret (pf_callD (ok_neighbours_in T) (hr.mono (by decide)) (fun σ => passAt (takes_of rfl rfl rfl rfl) σ) (pf_cons (pf_var 0) (pf_cons (pf_var 1) (pf_nil)))))))
theorem sc__law_b_folds : FnScope ["web", "told", "small", "place"] ["web"] (defScope s__law_b_folds) := ⟨rfl, rfl, rfl, by decide +kernel, rfl, by decide +kernel, by decide +kernel⟩
theorem ok__law_b_folds (T : TxOk fa fn K mg base) : Df P w K mg base "_law_b_folds" 20 ["web"] [false] m__law_b_folds := by
  refine dfOk (bd := b__law_b_folds) T 48 48 sc__law_b_folds (by decide) (fun _ _ _ _ _ _ us hl => match us, hl with | [_], _ => rfl) ?_
  intro f cdv A outer s H vs E hr
  have sc := sc__law_b_folds
  exact pfs_cons (pfs_set (i := 1) sc.nd (pf_callD (ok_fold T) (hr.mono (by decide)) (fun σ => passAt (takes_of rfl rfl rfl rfl) σ) (pf_cons (pf_var 0) (pf_nil))))
    (pfs_cons (pfs_if (pft_W (pfw_and (pft_cmp (fop_eq hr.u64) (pf_ix (fix_d2 hr.u1) (pf_var 1) (pf_int)) (pf_str) (nomark _)) (pfw_and1 (pft_W (pfw_or (pft_cmp fop_isNot (pf_callD (ok_is_fold T) (hr.mono (by decide)) (fun σ => passAt (takes_of rfl rfl rfl rfl) σ) (pf_cons (pf_var 0) (pf_cons (pf_ix (fix_d2 hr.u1) (pf_var 1) (pf_int)) (pf_nil)))) (pf_bl) (nomark _)) (pfw_or1 (pft_cmp (fop_ne hr.u64) (pf_ix (fix_d2 hr.u1) (pf_callD (ok_by_fold T) (hr.mono (by decide)) (fun σ => passAt (takes_of rfl rfl rfl rfl) σ) (pf_cons (pf_var 0) (pf_nil))) (pf_int)) (pf_blt fb_len (T.free 67) bb_len (pf_cons (pf_callD (ok_greatest_crowd T) (hr.mono (by decide)) (fun σ => passAt (takes_of rfl rfl rfl rfl) σ) (pf_cons (pf_var 0) (pf_nil))) (pf_nil))) (nomark _)))))))) (pfs_one (pfs_ret (pf_non))) (pfs_nil))
    (pfs_cons (pfs_if (pft_cmp (fop_eq hr.u64) (pf_ix (fix_d2 hr.u1) (pf_var 1) (pf_int)) (pf_str) (nomark _)) (pfs_cons (pfs_set (i := 2) sc.nd (pf_callD (ok_cut_down T) (hr.mono (by decide)) (fun σ => passAt (takes_of rfl rfl rfl rfl) σ) (pf_cons (pf_var 0) (pf_cons (pf_bty fb_tuple (T.free 73) bb_tuple (pf_cons (pf_blt fb_sorted (T.free 72) bb_sorted (pf_cons (pf_ix (fix_d2 hr.u1) (pf_var 1) (pf_int)) (pf_nil))) (pf_nil))) (pf_nil)))))
    (pfs_cons (pfs_if (pft_W (pfw_or (pft_cmp fop_isNot (pf_callD (ok_is_bare_ring T) (hr.mono (by decide)) (fun σ => passAt (takes_of rfl rfl rfl rfl) σ) (pf_cons (pf_var 0) (pf_cons (pf_ix (fix_d2 hr.u1) (pf_var 1) (pf_int)) (pf_nil)))) (pf_bl) (nomark _)) (pfw_or1 (pft_cmp (fop_ne hr.u64) (pf_ix (fix_d2 hr.u1) (pf_callD (ok_fold T) (hr.mono (by decide)) (fun σ => passAt (takes_of rfl rfl rfl rfl) σ) (pf_cons (pf_var 2) (pf_nil))) (pf_int)) (pf_str) (nomark _))))) (pfs_one (pfs_ret (pf_non))) (pfs_nil))
    (pfs_one (pfs_if (pft_B (pf_blt (fb_any rfl) (T.free 79) bb_any (pf_cons (pf_lc (own := [("place", 3)]) rfl sc.nd (pfi_range1 rfl (T.free 68) (pf_cons (pf_ix (fix_d2 hr.u1) (pf_var 2) (pf_int)) (pf_nil))) (blkOk_by (by rfl)) (fun s H C cl fp => pfg_nm sc.nd) (fun s H C cl fp => pfts_nil) (fun s H C cl fp => pf_cmp (fop_ne hr.u64) (pf_blt fb_len (T.free 67) bb_len (pf_cons (pf_callD (ok_neighbours T) (hr.mono (by decide)) pass0At (pf_cons (pf_var 2) (pf_cons (pf_var 3) (pf_nil)))) (pf_nil))) (pf_int) (nomark _))) (pf_nil)))) (pfs_one (pfs_ret (pf_non))) (pfs_nil))))) (pfs_nil))
    (pfs_one (pfs_ret (pf_cmp (fop_eq hr.u64) (pf_ix (fix_d2 hr.u1) (pf_var 1) (pf_int)) (pf_str) (nomark _))))))
theorem sc__law_b_cut_right : FnScope ["tape", "web", "so", "turn", "some", "place", "small", "told", "order"] ["tape", "web", "so"] (defScope s__law_b_cut_right) := ⟨rfl, rfl, rfl, by decide +kernel, rfl, by decide +kernel, by decide +kernel⟩
theorem ok__law_b_cut_right (T : TxOk fa fn K mg base) : Df P w K mg base "_law_b_cut_right" 21 ["tape", "web", "so"] [true, false, false] m__law_b_cut_right := by
  refine dfOk (bd := b__law_b_cut_right) (k := 20) (N := ["tape", "web", "so", "turn", "some", "place", "small", "told", "order"]) (ps := ["tape", "web", "so"]) (st := s__law_b_cut_right) T 49 49 sc__law_b_cut_right (by decide) (fun _ _ _ _ _ _ us hl => match us, hl with | [_, _, _], _ => rfl) ?_
  intro f cdv A outer s H vs E hr
  have sc := sc__law_b_cut_right
  exact pfs_cons (pfs_for (ws := [3]) (wp := [3, 4, 5, 6, 7, 8]) (passes_of rfl) rfl (pfi_range1 rfl (T.free 68) (pf_cons (pf_int) (pf_nil))) (pfg_nm sc.nd) (pfs_cons (pfs_set (i := 4) sc.nd (pf_bty fb_tupleN (T.free 73) bb_tuple (pf_cons (pf_lc (own := [("place", 5)]) rfl sc.nd (pfi_range1 rfl (T.free 68) (pf_cons (pf_ix (fix_d2 hr.u1) (pf_var 1) (pf_int)) (pf_nil))) (blkOk_by (by rfl)) (fun s H C cl fp => pfg_nm sc.nd) (fun s H C cl fp => pfts_one (pft_cmp fop_gt (pf_callD (ok__law_b_digit T) (hr.mono (by decide)) pass0At (pf_cons (pf_var 0) (pf_cons (pf_int) (pf_nil)))) (pf_int) (nomark _))) (fun s H C cl fp => pf_var 5)) (pf_nil))))
    (pfs_cons (pfs_set (i := 6) sc.nd (pf_callD (ok_cut_down T) (hr.mono (by decide)) (fun σ => passAt (takes_of rfl rfl rfl rfl) σ) (pf_cons (pf_var 1) (pf_cons (pf_var 4) (pf_nil)))))
    (pfs_cons (pfs_set (i := 7) sc.nd (pf_callD (ok__law_b_folds T) (hr.mono (by decide)) (fun σ => passAt (takes_of rfl rfl rfl rfl) σ) (pf_cons (pf_var 6) (pf_nil))))
    (pfs_cons (pfs_if (pft_W (pfw_or (pft_cmp fop_is (pf_var 7) (pf_non) (nomark _)) (pfw_or1 (pft_W (pfw_and (pft_B (pf_var 2)) (pfw_and1 (pft_not (pft_B (pf_var 7))))))))) (pfs_one (pfs_ret (pf_bl))) (pfs_nil))
    (pfs_one (pfs_if (pft_B (pf_var 2)) (pfs_cons (pfs_set (i := 8) sc.nd (pf_bty fb_tuple (T.free 73) bb_tuple (pf_cons (pf_lc (own := [("place", 5)]) rfl sc.nd (pfi_seq (pf_ix (fix_d2 hr.u1) (pf_callD (ok_fold T) (hr.mono (by decide)) (fun σ => passAt (takes_of rfl rfl rfl rfl) σ) (pf_cons (pf_var 1) (pf_nil))) (pf_int))) (blkOk_by (by rfl)) (fun s H C cl fp => pfg_nm sc.nd) (fun s H C cl fp => pfts_one (pft_cmp (fop_inT hr.u65) (pf_var 5) (pf_var 4) (by rfl))) (fun s H C cl fp => pf_tindex (pf_var 4) (pf_var 5))) (pf_nil))))
    (pfs_one (pfs_if (pft_cmp fop_isNot (pf_callD (ok_is_fold T) (hr.mono (by decide)) (fun σ => passAt (takes_of rfl rfl rfl rfl) σ) (pf_cons (pf_var 6) (pf_cons (pf_var 8) (pf_nil)))) (pf_bl) (nomark _)) (pfs_one (pfs_ret (pf_bl))) (pfs_nil)))) (pfs_nil))))))))
    (pfs_one (pfs_ret (pf_bl)))
theorem sc_need_two : FnScope ["one", "other"] ["one", "other"] (defScope s_need_two) := ⟨rfl, rfl, rfl, by decide +kernel, rfl, by decide +kernel, by decide +kernel⟩
theorem ok_need_two (T : TxOk fa fn K mg base) : Df P w K mg base "need_two" 7 ["one", "other"] [false, false] m_need_two := by
  refine dfOk (bd := b_need_two) T 50 50 sc_need_two (by decide) (fun _ _ _ _ _ _ us hl => match us, hl with | [_, _], _ => rfl) ?_
  intro f cdv A outer s H vs E hr
  have sc := sc_need_two
  exact pfs_cons (pfs_expr (pf_callD (ok_need_web T) (hr.mono (by decide)) (fun σ => passAt (takes_of rfl rfl rfl rfl) σ) (pf_cons (pf_var 0) (pf_nil))))
    (pfs_one (pfs_expr (pf_callD (ok_need_web T) (hr.mono (by decide)) (fun σ => passAt (takes_of rfl rfl rfl rfl) σ) (pf_cons (pf_var 1) (pf_nil)))))
theorem sc_need_room : FnScope ["many"] ["many"] (defScope s_need_room) := ⟨rfl, rfl, rfl, by decide +kernel, rfl, by decide +kernel, by decide +kernel⟩
theorem ok_need_room (T : TxOk fa fn K mg base) : Df P w K mg base "need_room" 1 ["many"] [false] m_need_room := by
  refine dfOk (bd := b_need_room) T 51 51 sc_need_room (by decide) (fun _ _ _ _ _ _ us hl => match us, hl with | [_], _ => rfl) ?_
  intro f cdv A outer s H vs E hr
  have sc := sc_need_room
  exact pfs_one (pfs_if (pft_cmp fop_gt (pf_var 0) (pf_globI (T.int 66)) (nomark _)) (pfs_one (pfs_raise rfl (takes_of rfl rfl rfl rfl) (T.glo 64) (T.exc 65))) (pfs_nil))
theorem sc_moved : FnScope ["pairs", "by", "first", "second"] ["pairs", "by"] (defScope s_moved) := ⟨rfl, rfl, rfl, by decide +kernel, rfl, by decide +kernel, by decide +kernel⟩
theorem ok_moved (T : TxOk fa fn K mg base) : Df P w K mg base "moved" 1 ["pairs", "by"] [false, false] m_moved := by
  refine dfOk (bd := b_moved) T 52 52 sc_moved (by decide) (fun _ _ _ _ _ _ us hl => match us, hl with | [_, _], _ => rfl) ?_
  intro f cdv A outer s H vs E hr
  have sc := sc_moved
  exact pfs_one (pfs_ret (pf_lc (own := [("first", 2), ("second", 3)]) rfl sc.nd (pfi_seq (pf_var 0)) (blkOk_by (by rfl)) (fun s H C cl fp => pfg_tup rfl (pfgs_cons (pfg_nm sc.nd) (pfgs_cons (pfg_nm sc.nd) (pfgs_nil))) rfl rfl tp2) (fun s H C cl fp => pfts_nil) (fun s H C cl fp => pf_tup (pf_cons (pf_op fop_add (pf_var 2) (pf_var 1)) (pf_cons (pf_op fop_add (pf_var 3) (pf_var 1)) (pf_nil))))))
theorem sc_beside : FnScope ["one", "other"] ["one", "other"] (defScope s_beside) := ⟨rfl, rfl, rfl, by decide +kernel, rfl, by decide +kernel, by decide +kernel⟩
theorem ok_beside (T : TxOk fa fn K mg base) : Df P w K mg base "beside" 8 ["one", "other"] [false, false] m_beside := by
  refine dfOk (bd := b_beside) T 53 53 sc_beside (by decide) (fun _ _ _ _ _ _ us hl => match us, hl with | [_, _], _ => rfl) ?_
  intro f cdv A outer s H vs E hr
  have sc := sc_beside
  exact pfs_cons (pfs_expr (pf_callD (ok_need_two T) (hr.mono (by decide)) (fun σ => passAt (takes_of rfl rfl rfl rfl) σ) (pf_cons (pf_var 0) (pf_cons (pf_var 1) (pf_nil)))))
    (pfs_cons (pfs_expr (pf_callD (ok_need_room T) (hr.mono (by decide)) (fun σ => passAt (takes_of rfl rfl rfl rfl) σ) (pf_cons (pf_op fop_add (pf_ix (fix_d2 hr.u1) (pf_var 0) (pf_int)) (pf_ix (fix_d2 hr.u1) (pf_var 1) (pf_int))) (pf_nil))))
    (pfs_one (pfs_ret (pf_callD (ok_web_of T) (hr.mono (by decide)) (fun σ => passAt (takes_of rfl rfl rfl rfl) σ) (pf_cons (pf_op fop_add (pf_ix (fix_d2 hr.u1) (pf_var 0) (pf_int)) (pf_ix (fix_d2 hr.u1) (pf_var 1) (pf_int))) (pf_cons (pf_op fop_add (pf_bty fb_list (T.free 78) bb_list (pf_cons (pf_ix (fix_d2 hr.u1) (pf_var 0) (pf_int)) (pf_nil))) (pf_callD (ok_moved T) (hr.mono (by decide)) (fun σ => passAt (takes_of rfl rfl rfl rfl) σ) (pf_cons (pf_ix (fix_d2 hr.u1) (pf_var 1) (pf_int)) (pf_cons (pf_ix (fix_d2 hr.u1) (pf_var 0) (pf_int)) (pf_nil))))) (pf_nil)))))))
theorem sc__law_b_called : FnScope ["tape", "web", "called", "k", "found", "i", "j"] ["tape", "web"] (defScope s__law_b_called) := ⟨rfl, rfl, rfl, by decide +kernel, rfl, by decide +kernel, by decide +kernel⟩
theorem ok__law_b_called (T : TxOk fa fn K mg base) : Df P w K mg base "_law_b_called" 3 ["tape", "web"] [true, false] m__law_b_called := by
  refine dfOk (bd := b__law_b_called) T 54 54 sc__law_b_called (by decide) (fun _ _ _ _ _ _ us hl => match us, hl with | [_, _], _ => rfl) ?_
  intro f cdv A outer s H vs E hr
  have sc := sc__law_b_called
  exact pfs_cons (pfs_set (i := 2) sc.nd (pf_lst (pf_nil)))
    (pfs_cons (pfs_for (ws := [3]) (wp := [3]) (passes_of rfl) rfl (pfi_range1 rfl (T.free 68) (pf_cons (pf_ix (fix_d2 hr.u1) (pf_var 1) (pf_int)) (pf_nil))) (pfg_nm sc.nd) (pfs_one (pfs_expr (pf_lm 2 PySem.F.slot_list_insert PySem.F.type_list_insert fm_insert (pf_cons (pf_callD (ok__law_b_digit T) (hr.mono (by decide)) (fun σ => passAt (takes_of rfl rfl rfl rfl) σ) (pf_cons (pf_var 0) (pf_cons (pf_op fop_add (pf_var 3) (pf_int)) (pf_nil)))) (pf_cons (pf_var 3) (pf_nil))) (pv 2)))))
    (pfs_cons (pfs_setLc (own := [("i", 5), ("j", 6)]) rfl sc.nd rfl (pfi_seq (pf_ix (fix_d2 hr.u1) (pf_var 1) (pf_int))) (blkOk_by (by rfl)) (fun s H C cl fp => pfg_tup rfl (pfgs_cons (pfg_nm sc.nd) (pfgs_cons (pfg_nm sc.nd) (pfgs_nil))) rfl rfl tp2) (fun s H C cl fp => pfts_nil) (fun s H C cl fp => pf_tup (pf_cons (pf_blt (fb_min2 rfl) (T.free 71) bb_min (pf_cons (pf_ix (fix_d2 hr.u1) (pf_var 2) (pf_var 5)) (pf_cons (pf_ix (fix_d2 hr.u1) (pf_var 2) (pf_var 6)) (pf_nil)))) (pf_cons (pf_blt (fb_max2 rfl) (T.free 70) bb_max (pf_cons (pf_ix (fix_d2 hr.u1) (pf_var 2) (pf_var 5)) (pf_cons (pf_ix (fix_d2 hr.u1) (pf_var 2) (pf_var 6)) (pf_nil)))) (pf_nil)))))
    (pfs_one (pfs_ret (pf_tup (pf_cons (pf_ix (fix_d2 hr.u1) (pf_var 1) (pf_int)) (pf_cons (pf_bty fb_tuple (T.free 73) bb_tuple (pf_cons (pf_blt fb_sorted (T.free 72) bb_sorted (pf_cons (pf_var 4) (pf_nil))) (pf_nil))) (pf_nil))))))))
theorem sc_is_crowd : FnScope ["web", "some"] ["web", "some"] (defScope s_is_crowd) := ⟨rfl, rfl, rfl, by decide +kernel, rfl, by decide +kernel, by decide +kernel⟩
theorem ok_is_crowd (T : TxOk fa fn K mg base) : Df P w K mg base "is_crowd" 7 ["web", "some"] [false, false] m_is_crowd := by
  refine dfOk (bd := b_is_crowd) T 55 55 sc_is_crowd (by decide) (fun _ _ _ _ _ _ us hl => match us, hl with | [_, _], _ => rfl) ?_
  intro f cdv A outer s H vs E hr
  have sc := sc_is_crowd
  exact pfs_cons (pfs_expr (pf_callD (ok_need_web T) (hr.mono (by decide)) (fun σ => passAt (takes_of rfl rfl rfl rfl) σ) (pf_cons (pf_var 0) (pf_nil))))
    (pfs_cons (pfs_expr (pf_callD (ok_need_set T) (hr.mono (by decide)) (fun σ => passAt (takes_of rfl rfl rfl rfl) σ) (pf_cons (pf_var 0) (pf_cons (pf_var 1) (pf_nil)))))
    (pfs_one (pfs_ret (pf_callD (ok_is_crowd_in T) (hr.mono (by decide)) (fun σ => passAt (takes_of rfl rfl rfl rfl) σ) (pf_cons (pf_var 0) (pf_cons (pf_var 1) (pf_nil)))))))
theorem sc__law_b_with_one : FnScope ["tape", "web", "some", "place"] ["tape", "web"] (defScope s__law_b_with_one) := ⟨rfl, rfl, rfl, by decide +kernel, rfl, by decide +kernel, by decide +kernel⟩
theorem ok__law_b_with_one (T : TxOk fa fn K mg base) : Df P w K mg base "_law_b_with_one" 8 ["tape", "web"] [true, false] m__law_b_with_one := by
  refine dfOk (bd := b__law_b_with_one) T 56 56 sc__law_b_with_one (by decide) (fun _ _ _ _ _ _ us hl => match us, hl with | [_, _], _ => rfl) ?_
  intro f cdv A outer s H vs E hr
  have sc := sc__law_b_with_one
  exact pfs_cons (pfs_set (i := 2) sc.nd (pf_lst (pf_nil)))
    (pfs_cons (pfs_for (ws := [3]) (wp := [3]) (passes_of rfl) rfl (pfi_range1 rfl (T.free 68) (pf_cons (pf_ix (fix_d2 hr.u1) (pf_var 1) (pf_int)) (pf_nil))) (pfg_nm sc.nd) (pfs_one (pfs_if (pft_W (pfw_and (pft_cmp (fop_eq hr.u64) (pf_callD (ok__law_b_digit T) (hr.mono (by decide)) (fun σ => passAt (takes_of rfl rfl rfl rfl) σ) (pf_cons (pf_var 0) (pf_cons (pf_int) (pf_nil)))) (pf_int) (nomark _)) (pfw_and1 (pft_B (pf_callD (ok_is_crowd T) (hr.mono (by decide)) (fun σ => passAt (takes_of rfl rfl rfl rfl) σ) (pf_cons (pf_var 1) (pf_cons (pf_bty fb_tuple (T.free 73) bb_tuple (pf_cons (pf_op fop_add (pf_var 2) (pf_lst (pf_cons (pf_var 3) (pf_nil)))) (pf_nil))) (pf_nil)))))))) (pfs_one (pfs_expr (pf_lm 2 PySem.F.slot_list_append PySem.F.type_list_append fm_append (pf_cons (pf_var 3) (pf_nil)) (pv 2)))) (pfs_nil))))
    (pfs_one (pfs_ret (pf_tup (pf_cons (pf_op fop_add (pf_ix (fix_d2 hr.u1) (pf_var 1) (pf_int)) (pf_int)) (pf_cons (pf_bty fb_tuple (T.free 73) bb_tuple (pf_cons (pf_blt fb_sorted (T.free 72) bb_sorted (pf_cons (pf_op fop_add (pf_bty fb_list (T.free 78) bb_list (pf_cons (pf_ix (fix_d2 hr.u1) (pf_var 1) (pf_int)) (pf_nil))) (pf_lc (own := [("place", 3)]) rfl sc.nd (pfi_seq (pf_var 2)) (blkOk_by (by rfl)) (fun s H C cl fp => pfg_nm sc.nd) (fun s H C cl fp => pfts_nil) (fun s H C cl fp => pf_tup (pf_cons (pf_var 3) (pf_cons (pf_ix (fix_d2 hr.u1) (pf_var 1) (pf_int)) (pf_nil)))))) (pf_nil))) (pf_nil))) (pf_nil)))))))
theorem sc_law : FnScope ["script", "tape", "k", "web", "so", "other"] ["script"] (defScope s_law) := ⟨rfl, rfl, rfl, by decide +kernel, rfl, by decide +kernel, by decide +kernel⟩
theorem lawFn (T : TxOk fa fn K mg base) {f : Addr} {fd : FuncData} (F : FunD K "law" "law" (defArgs s_law) (defBody s_law) (defScope s_law) [] [] f fd) : FnOk P w K mg base (L2.CX P w) 22 f fd ["script"] (liftSp K mg (ioOf [false]) 1 m_law) := by
  refine okF (bd := b_law) (funOf F) sc_law (by decide) ?_
  intro cdv A outer s H vs E hr
  have sc := sc_law
  exact pfs_cons (pfs_set (i := 1) sc.nd (pf_lst (pf_cons (pf_var 0) (pf_cons (pf_int) (pf_cons (pf_int) (pf_nil))))))
    (pfs_cons (pfs_for (ws := [2]) (wp := [2, 3, 4, 5]) (passes_of rfl) rfl (pfi_range1 rfl (T.free 68) (pf_cons (pf_int) (pf_nil))) (pfg_nm sc.nd) (pfs_cons (pfs_if (pft_W (pfw_and (pft_cmp fop_gt (pf_var 2) (pf_int) (nomark _)) (pfw_and1 (pft_cmp fop_ge (pf_ix (fix_d2 hr.u1) (pf_var 1) (pf_int)) (pf_blt fb_len (T.free 67) bb_len (pf_cons (pf_var 0) (pf_nil))) (nomark _))))) (pfs_one (pfs_break)) (pfs_nil))
    (pfs_cons (pfs_set (i := 3) sc.nd (pf_callD (ok__law_b_web T) (hr.mono (by decide)) (fun σ => passAt (takes_of rfl rfl rfl rfl) σ) (pf_cons (pf_var 1) (pf_cons (pf_int) (pf_nil)))))
    (pfs_cons (pfs_set (i := 4) sc.nd (pf_callD (ok__law_b_folds T) (hr.mono (by decide)) (fun σ => passAt (takes_of rfl rfl rfl rfl) σ) (pf_cons (pf_var 3) (pf_nil))))
    (pfs_cons (pfs_if (pft_W (pfw_or (pft_cmp fop_is (pf_var 4) (pf_non) (nomark _)) (pfw_or (pft_cmp (fop_ne hr.u64) (pf_callD (ok__law_b_folds T) (hr.mono (by decide)) (fun σ => passAt (takes_of rfl rfl rfl rfl) σ) (pf_cons (pf_callD (ok__law_b_called T) (hr.mono (by decide)) (fun σ => passAt (takes_of rfl rfl rfl rfl) σ) (pf_cons (pf_var 1) (pf_cons (pf_var 3) (pf_nil)))) (pf_nil))) (pf_var 4) (nomark _)) (pfw_or1 (pft_not (pft_B (pf_callD (ok__law_b_cut_right T) (hr.mono (by decide)) (fun σ => passAt (takes_of rfl rfl rfl rfl) σ) (pf_cons (pf_var 1) (pf_cons (pf_var 3) (pf_cons (pf_var 4) (pf_nil))))))))))) (pfs_one (pfs_ret (pf_bl))) (pfs_nil))
    (pfs_cons (pfs_set (i := 5) sc.nd (pf_callD (ok__law_b_web T) (hr.mono (by decide)) (fun σ => passAt (takes_of rfl rfl rfl rfl) σ) (pf_cons (pf_var 1) (pf_cons (pf_op fop_sub (pf_int) (pf_ix (fix_d2 hr.u1) (pf_var 3) (pf_int))) (pf_nil)))))
    (pfs_cons (pfs_if (pft_cmp (fop_ne hr.u64) (pf_callD (ok__law_b_folds T) (hr.mono (by decide)) (fun σ => passAt (takes_of rfl rfl rfl rfl) σ) (pf_cons (pf_callD (ok_beside T) (hr.mono (by decide)) (fun σ => passAt (takes_of rfl rfl rfl rfl) σ) (pf_cons (pf_var 3) (pf_cons (pf_var 5) (pf_nil)))) (pf_nil))) (pf_and (pf_var 4) (pf_one (pf_callD (ok__law_b_folds T) (hr.mono (by decide)) (fun σ => passAt (takes_of rfl rfl rfl rfl) σ) (pf_cons (pf_var 5) (pf_nil))))) (nomark _)) (pfs_one (pfs_ret (pf_bl))) (pfs_nil))
    (pfs_one (pfs_if (pft_W (pfw_and (pft_cmp (fop_lt hr.units0) (pf_ix (fix_d2 hr.u1) (pf_var 3) (pf_int)) (pf_int) (nomark _)) (pfw_and1 (pft_cmp (fop_ne hr.u64) (pf_callD (ok__law_b_folds T) (hr.mono (by decide)) (fun σ => passAt (takes_of rfl rfl rfl rfl) σ) (pf_cons (pf_callD (ok__law_b_with_one T) (hr.mono (by decide)) (fun σ => passAt (takes_of rfl rfl rfl rfl) σ) (pf_cons (pf_var 1) (pf_cons (pf_var 3) (pf_nil)))) (pf_nil))) (pf_var 4) (nomark _))))) (pfs_one (pfs_ret (pf_bl))) (pfs_nil))))))))))
    (pfs_one (pfs_ret (pf_bl))))
end
end Lk18
namespace Lk18
open PySem PySem.Spec PyProof.Rows L2 Hs
theorem facts {P : Program} {w : World} {K : PySem.W.Frag} {h : Heap} {mg : Str → Option Value} {f : Addr} (X : K.In h) (G : h.Ns mainGlobals mg) (hfa : mg ("law" : Str) = some (.ref f)) (c : He.SaysD fa fn K) :
    ∃ fd : FuncData, (∀ (s : Shared) (u : Value), BindsTo s fd ⟨[u], []⟩ [("script", u)]) ∧ ∀ base : Heap, K.In base → base.Ns mainGlobals mg → FnOk P w K mg base (L2.CX P w) 22 f fd ["script"] (liftSp K mg (ioOf [false]) 1 m_law) := by
  obtain ⟨fd, F⟩ := c.def_ 57 (d := dOf "law" s_law) rfl
  have T0 : TxOk fa fn K mg h := ⟨c, X, G⟩
  have e := hfa.symm.trans (T0.glo 57)
  cases e
  have b := FunD.bindsA (ps := ["script"]) F fun _ _ _ _ _ _ us hl => match us, hl with | [_], _ => rfl
  refine ⟨fd, fun s u => b s [u] rfl, fun base hX hG => ?_⟩
  exact lawFn ⟨c, hX, hG⟩ F
end Lk18
namespace Lk18
open PySem Hs
local macro_rules
  | `(tactic| sizeOf_list_dec) => `(tactic| first
    | with_reducible refine st_seq ?_ | with_reducible refine st_asg ?_ | with_reducible refine st_cons ?_ | with_reducible refine st_nil ?_ | with_reducible refine st_C ?_ | with_reducible refine st_op ?_
    | with_reducible refine st_var_d ?_ | with_reducible refine st_var_l ?_ | with_reducible refine st_var_ll ?_ | with_reducible refine st_var_dc ?_
    | with_reducible refine st_look_d ?_ | with_reducible refine st_look_top ?_ | with_reducible refine st_look_top_d ?_ | with_reducible refine st_look_own ?_ | with_reducible refine st_look_top_dc ?_ | with_reducible refine st_look_own_dc ?_ | with_reducible refine st_put_d ?_ | with_reducible refine st_put_own ?_ | with_reducible refine st_put_top_l ?_ | with_reducible refine st_put_top_ll ?_ | with_reducible refine st_put_top_dc ?_
    | ((with_reducible refine st_callF ?_ ?_); eq_refl) | with_reducible refine st_call ?_ | with_reducible refine st_putK_nil ?_ | with_reducible refine st_putK_t ?_ | with_reducible refine st_putK_f ?_ | with_reducible refine st_putK_td ?_ | with_reducible refine st_putK_to ?_ | with_reducible refine st_bind_nil ?_ | with_reducible refine st_bind_f ?_ | with_reducible refine st_bind_tt ?_ | with_reducible refine st_bind_td ?_ | with_reducible refine st_bind_to ?_
    | with_reducible refine st_frz_d ?_ | with_reducible refine st_frz_own ?_ | with_reducible refine st_frz_top ?_ | with_reducible refine st_frz_own_ll ?_ | with_reducible refine st_frz_own_dc ?_ | with_reducible refine st_frz_top_ll ?_ | with_reducible refine st_frz_top_dc ?_ | with_reducible refine st_frzAll_nil ?_ | with_reducible refine st_frzAll_cons ?_
    | with_reducible refine st_if ?_ | with_reducible refine st_B ?_ | with_reducible refine st_and ?_ | with_reducible refine st_or ?_ | with_reducible refine st_not ?_ | with_reducible refine st_yes ?_ | with_reducible refine st_isB ?_ | with_reducible refine st_t ?_ | with_reducible refine st_f ?_ | ((with_reducible refine st_iteT ?_ ?_); decide) | ((with_reducible refine st_iteF ?_ ?_); decide)
    | with_reducible refine st_nt ?_ | with_reducible refine st_nf ?_
    | with_reducible refine st_ret ?_ | with_reducible refine st_next ?_ | with_reducible refine st_retN ?_ | with_reducible refine st_drop ?_ | with_reducible refine st_break ?_ | with_reducible refine st_raise ?_
    | with_reducible refine st_out_d ?_ | with_reducible refine st_out_own ?_ | with_reducible refine st_out_top ?_
    | with_reducible refine st_tup ?_ | with_reducible refine st_lst ?_ | with_reducible refine st_un ?_ | with_reducible refine st_blt ?_ | with_reducible refine st_lookAll_nil ?_ | with_reducible refine st_lookAll_cons ?_
    | with_reducible refine st_unp ?_ | with_reducible refine st_par ?_ | with_reducible refine st_setIx ?_ | with_reducible refine st_onL ?_ | with_reducible refine st_for ?_ | with_reducible refine st_wipe_nil ?_ | with_reducible refine st_wipe_cons ?_ | with_reducible refine st_andV ?_ | with_reducible refine st_orV ?_ | with_reducible refine st_notV ?_ | with_reducible refine st_ifE ?_ | with_reducible refine st_chain ?_
    | with_reducible refine st_sl ?_ | with_reducible refine st_noPart ?_ | with_reducible refine st_part ?_ | with_reducible refine st_lc ?_ | with_reducible refine st_lm ?_
    | with_reducible refine st_seqI ?_ | with_reducible refine st_range1 ?_ | with_reducible refine st_range2 ?_ | with_reducible refine st_enum ?_ | with_reducible refine st_zip ?_
    | with_reducible refine st_nm ?_ | with_reducible refine st_tp ?_ | with_reducible refine st_tps_nil ?_ | with_reducible refine st_tps_cons ?_
    | ((with_reducible refine st_mod_i ?_ ?_); (first | decide | omega)) | ((with_reducible refine st_fdiv_i ?_ ?_); decide) 
    | with_reducible refine st_add_i ?_ | with_reducible refine st_sub_i ?_ | with_reducible refine st_neg_i ?_ | with_reducible refine st_eq_i ?_ | with_reducible refine st_ne_i ?_ | with_reducible refine st_eq_str ?_ | with_reducible refine st_ne_str ?_ | with_reducible refine st_eq_b ?_ | with_reducible refine st_ne_b ?_ | with_reducible refine st_lt_i ?_ | with_reducible refine st_le_i ?_ | with_reducible refine st_gt_i ?_ | with_reducible refine st_ge_i ?_
    | with_reducible refine st_is_n ?_ | with_reducible refine st_isNot_n ?_ | with_reducible refine st_is_b ?_ | with_reducible refine st_isNot_b ?_ | ((with_reducible refine st_ix_l (x := ?_) ?_ ?_); rotate_left; eq_refl) | ((with_reducible refine st_ix_t (x := ?_) ?_ ?_); rotate_left; eq_refl) | with_reducible refine st_len_l ?_ | with_reducible refine st_len_t ?_ | with_reducible refine st_len_lit ?_
    | with_reducible refine st_abs ?_ | with_reducible refine st_max2 ?_ | with_reducible refine st_min2 ?_ | with_reducible refine st_int_i ?_ | with_reducible refine st_int_b ?_ | with_reducible refine st_tuple_l ?_ | with_reducible refine st_tuple_t ?_ | with_reducible refine st_list_l ?_ | with_reducible refine st_list_t ?_ | ((with_reducible refine st_isT ?_ ?_); eq_refl) | ((with_reducible refine st_isTT ?_ ?_); eq_refl) | ((with_reducible refine st_isTF ?_ ?_); eq_refl) | ((with_reducible refine st_isNT ?_ ?_); eq_refl) | ((with_reducible refine st_isNF ?_ ?_); eq_refl)
    | with_reducible refine st_rg1 ?_ | with_reducible refine st_rg2 ?_ | with_reducible refine st_enumL ?_ | with_reducible refine st_zipS ?_ | with_reducible refine st_rev_l ?_ | with_reducible refine st_rev_t ?_
    | with_reducible refine st_ne_ll ?_ | with_reducible refine st_ne_lit ?_ | with_reducible refine st_in_pt ?_ | with_reducible refine st_in_pl ?_
    | with_reducible refine st_sl_l ?_ | with_reducible refine st_sl_t ?_
    | ((with_reducible refine st_iteLen ?_ ?_); eq_refl) | ((with_reducible refine st_iteNLen ?_ ?_); eq_refl) | with_reducible refine st_iteBB ?_ | ((with_reducible refine st_iteND ?_ ?_); omega) | ((with_reducible refine st_iteNF ?_ ?_); omega)
    | ((with_reducible refine st_iteT (decide_eq_true ?_) ?_); omega) | ((with_reducible refine st_iteF (decide_eq_false ?_) ?_); omega))
local macro_rules
  | `(tactic| sizeOf_list_dec) => `(tactic| with_reducible refine stepTo ?_)
local macro_rules
  | `(tactic| array_get_dec) => `(tactic| repeat sizeOf_list_dec)
local macro_rules
  | `(tactic| sizeOf_list_dec) => `(tactic| first | with_reducible refine st_ix2_l ?_ | with_reducible refine st_ix2_t ?_ | with_reducible refine st_ix2_s ?_ | with_reducible refine st_ix2_lit ?_ | with_reducible refine st_inK_l ?_ | with_reducible refine st_inK_t ?_ | with_reducible refine st_ninK_l ?_ | with_reducible refine st_ninK_t ?_ | with_reducible refine st_setD ?_ | with_reducible refine st_onDc ?_ | with_reducible refine st_dget2 ?_ | with_reducible refine st_emT ?_ | with_reducible refine st_emD ?_ | with_reducible refine st_disp1 ?_ | with_reducible refine st_disp1k ?_ | with_reducible refine st_range3 ?_ | with_reducible refine st_bor ?_ | with_reducible refine st_borT ?_ | with_reducible refine st_bindT_nil ?_ | with_reducible refine st_bindT_d ?_ | with_reducible refine st_bindT_o ?_ | with_reducible refine st_bindT_t ?_ | with_reducible refine st_toPs_nil ?_ | with_reducible refine st_toPs_d ?_ | with_reducible refine st_toPs_l ?_ | with_reducible refine st_toPs_dc ?_ | with_reducible refine st_tupO ?_ | with_reducible refine st_var_tp ?_ | with_reducible refine st_frz_own_tp ?_ | with_reducible refine st_frz_top_tp ?_ | with_reducible refine st_lmP ?_ | ((with_reducible refine st_onP ?_ ?_); eq_refl) | with_reducible refine st_flat_b ?_ | with_reducible refine st_flat_i ?_)
theorem st_lenT {ds : List D} {Q : R → Prop} (h : bLen ds Q) : bLenT ds Q := .inl h
theorem st_lenT_f {ns : List Int} {Q : R → Prop} (h : Q (.d (.int (ns.length : Nat)))) : bLenT [tfD ns] Q := .inr ⟨ns, rfl, h⟩
theorem st_ixDT_t {xs : List D} {e : D} {Q : R → Prop} (h : ixD2 (.tuple xs) e Q) : ixDT (.tuple xs) e Q := .inl h
theorem st_ixDT_l {xs : List D} {e : D} {Q : R → Prop} (h : ixD2 (.list xs) e Q) : ixDT (.list xs) e Q := .inl h
theorem st_ixDT_f {ns : List Int} {i z : Int} {Q : R → Prop} (hi : L2.atI ns i = some z) (h : Q (.d (.int z))) : ixDT (tfD ns) (.int i) Q := .inr ⟨ns, i, z, rfl, rfl, hi, h⟩
theorem st_inT2 {d e : D} {Q : R → Prop} (h : cInK d e Q) : cInT d e Q := .inl h
theorem st_inT_f {d : D} {ns : List Int} {Q : R → Prop} (h : cIn d (.tuple (ns.map PyData.int)) Q) : cInT d (tfD ns) Q := .inr ⟨ns, rfl, h⟩
theorem st_isT2 {T : String} {d : D} {Q : R → Prop} (h : bIs T d Q) : bIsT T d Q := .inl h
theorem st_isT_f {T : String} {ns : List Int} {Q : R → Prop} (h : Q (.d (.bool (isTy T (.tuple []))))) : bIsT T (tfD ns) Q := .inr ⟨ns, rfl, h⟩
def seqT (d : D) (Q : List D → Prop) : Prop := match d with
  | .list xs => Q xs
  | .tuple xs => Q xs
  | .dict [(.none, .tuple xs)] => Q xs
  | _ => False
theorem st_seqT {a : FE} {X : XF} {s : S} {Q : List D → S → Prop} (h : a X s fun r s1 => frz r s1 fun d s2 => seqT d fun xs => Q xs s2) : iSeqT a X s Q := h
theorem st_seqT_l {xs : List D} {Q : List D → Prop} (h : Q xs) : seqT (.list xs) Q := h
theorem st_seqT_t {xs : List D} {Q : List D → Prop} (h : Q xs) : seqT (.tuple xs) Q := h
theorem st_seqT_f {ns : List Int} {Q : List D → Prop} (h : Q (ns.map PyData.int)) : seqT (tfD ns) Q := h
theorem st_tupN {xs : List D} {ns : List Int} {Q : R → Prop} (e : xs = ns.map PyData.int) (h : Q (.d (tfD ns))) : bTupleN [.list xs] Q := ⟨ns, e, h⟩
theorem st_tix {fo fe : FE} {X : XF} {s : S} {Q : R → S → Prop} (h : fo X s fun r1 s1 => look s1 r1 fun d => ∃ ns : List Int, d = tfD ns ∧ fe X s1 fun r2 s2 => look s2 r2 fun e => ∃ z, e = .int z ∧ z ∈ ns ∧ Q (.d (.int (ns.idxOf z : Nat))) s2) : fTIx fo fe X s Q := h
local macro_rules
  | `(tactic| sizeOf_list_dec) => `(tactic| first | with_reducible refine st_lenT_f ?_ | with_reducible refine st_lenT ?_ | with_reducible refine st_ixDT_t ?_ | with_reducible refine st_ixDT_l ?_ | with_reducible refine st_inT_f ?_ | with_reducible refine st_inT2 ?_ | with_reducible refine st_isT_f ?_ | with_reducible refine st_isT2 ?_ | with_reducible refine st_seqT ?_ | with_reducible refine st_seqT_l ?_ | with_reducible refine st_seqT_t ?_ | with_reducible refine st_seqT_f ?_ | with_reducible refine st_tix ?_)
theorem is_whole_ok {z : Int} {X : XF} {Q : R → S → Prop} (h : ∀ fin, Q (.d (.bool true)) fin) : m_is_whole [.d (.int z)] X Q := by
  unfold m_is_whole b_is_whole
  refine st_sem rfl ?_
  array_get_dec
  exact h _
local macro_rules
  | `(tactic| sizeOf_list_dec) => `(tactic| with_reducible refine is_whole_ok fun _ => ?_)
theorem is_below_ok {z m : Int} {X : XF} {Q : R → S → Prop} (h : ∀ fin, Q (.d (.bool (decide (0 ≤ z ∧ z < m)))) fin) : m_is_below [.d (.int z), .d (.int m)] X Q := by
  unfold m_is_below b_is_below
  refine st_sem rfl ?_
  array_get_dec
  refine st_ite (fun q => ?_) (fun q => ?_)
  · have q := of_decide_eq_true q
    array_get_dec
    rw [show decide (z < m) = decide (0 ≤ z ∧ z < m) by simp [q]]
    exact h _
  · have q := of_decide_eq_false q
    array_get_dec
    rw [show false = decide (0 ≤ z ∧ z < m) by simp [q]]
    exact h _
theorem is_tie_ok {n : Int} {p : Int × Int} (hp : 0 ≤ p.1 ∧ p.1 < p.2 ∧ p.2 < n) {X : XF} {Q : R → S → Prop} (h : ∀ fin, Q (.d (.bool true)) fin) : m_is_tie [.d (.int n), .d (pairD p)] X Q := by
  unfold m_is_tie b_is_tie
  refine st_sem rfl ?_
  array_get_dec
  refine is_below_ok fun fin => ?_
  rw [decide_eq_true (show 0 ≤ p.1 ∧ p.1 < n by omega)]
  array_get_dec
  refine is_below_ok fun fin => ?_
  rw [decide_eq_true (show 0 ≤ p.2 ∧ p.2 < n by omega)]
  array_get_dec
  rw [decide_eq_true hp.2.1]
  exact h _
theorem is_rising_ok {ts : List (Int × Int)} (hs : ts.Pairwise (fun p q => ltPr p q = true)) (hl : ts.length ≤ 1000) {X : XF} {Q : R → S → Prop} (h : ∀ fin, Q (.d (.bool true)) fin) : m_is_rising [.d (.tuple (ts.map pairD))] X Q := by
  unfold m_is_rising b_is_rising
  refine st_sem rfl ?_
  array_get_dec
  rw [List.length_map]
  refine ⟨by unfold lim62; omega, ?_⟩
  array_get_dec
  refine ⟨by rw [rangeD_len]; show _ ≤ 16777216; omega, ?_⟩
  array_get_dec
  refine comp_true (fun x hx kT hk => ?_) ?_
  · obtain ⟨t, ht, rfl⟩ := List.mem_map.mp (show x ∈ (List.range ((ts.length : Int) - 1).toNat).map fun (k : Nat) => PyData.int (0 + (k : Int)) from hx)
    have ht := List.mem_range.mp ht
    have h1 : t < ts.length := by omega
    have h2 : t + 1 < ts.length := by omega
    have g1 : L2.atI (ts.map pairD) (0 + (t : Int)) = some (pairD ts[t]) := by
      rw [Int.zero_add]
      exact L2.atI_nat (by rw [List.getElem?_map, List.getElem?_eq_getElem h1]; rfl)
    have g2 : L2.atI (ts.map pairD) (0 + (t : Int) + 1) = some (pairD ts[t + 1]) := by
      rw [Int.zero_add]
      exact L2.atI_nat (j := t + 1) (by rw [List.getElem?_map, List.getElem?_eq_getElem h2]; rfl)
    array_get_dec
    refine st_ix_t g1 ?_
    array_get_dec
    refine st_ix_t g2 ?_
    array_get_dec
    refine st_lt_t (ns := [ts[t].1, ts[t].2]) (ms := [ts[t + 1].1, ts[t + 1].2]) rfl rfl ?_
    rw [lex_pair, List.pairwise_iff_getElem.mp hs t (t + 1) h1 h2 (Nat.lt_succ_self t)]
    array_get_dec
    exact hk
  · array_get_dec
    refine st_all_true ?_
    array_get_dec
    exact h _
theorem are_ties_ok {n : Int} {ts : List (Int × Int)} (g : Good n ts) {X : XF} {Q : R → S → Prop} (h : ∀ fin, Q (.d (.bool true)) fin) : m_are_ties [.d (.int n), .d (.tuple (ts.map pairD))] X Q := by
  unfold m_are_ties b_are_ties
  refine st_sem rfl ?_
  array_get_dec
  refine ⟨by rw [List.length_map]; have := g.few; show _ ≤ 16777216; omega, ?_⟩
  array_get_dec
  refine comp_true (fun x hx kT hk => ?_) ?_
  · obtain ⟨p, hp, rfl⟩ := List.mem_map.mp hx
    array_get_dec
    refine is_tie_ok (g.ties p hp) fun fin => ?_
    array_get_dec
    exact hk
  · array_get_dec
    refine st_all_true ?_
    array_get_dec
    refine is_rising_ok g.up g.few fun fin => ?_
    array_get_dec
    exact h _
theorem is_web_ok {n : Int} {ts : List (Int × Int)} (g : Good n ts) {X : XF} {Q : R → S → Prop} (h : ∀ fin, Q (.d (.bool true)) fin) : m_is_web [.d (webD n ts)] X Q := by
  unfold m_is_web b_is_web
  refine st_sem rfl ?_
  have h1 := g.n0
  have h2 := g.n10
  array_get_dec
  refine is_below_ok fun fin => ?_
  rw [decide_eq_true (show 0 ≤ n ∧ n < 10 + 1 by omega)]
  array_get_dec
  refine are_ties_ok g fun fin => ?_
  array_get_dec
  exact h _
theorem need_web_ok {n : Int} {ts : List (Int × Int)} (g : Good n ts) {X : XF} {Q : R → S → Prop} (h : ∀ fin, Q (.d .none) fin) : m_need_web [.d (webD n ts)] X Q := by
  unfold m_need_web b_need_web
  refine st_sem rfl ?_
  array_get_dec
  refine is_web_ok g fun fin => ?_
  array_get_dec
  exact h _
theorem tied_in_ok {n a b : Int} {ts : List (Int × Int)} {X : XF} {Q : R → S → Prop} (h : ∀ fin, Q (.d (.bool (decide ((min a b, max a b) ∈ ts)))) fin) : m_tied_in [.d (webD n ts), .d (.int a), .d (.int b)] X Q := by
  unfold m_tied_in b_tied_in
  refine st_sem rfl ?_
  array_get_dec
  exact h _
theorem stirred_ok {c a : Int} (ha0 : 0 ≤ a) (ha : a ≤ 2 ^ 64) {X : XF} {Q : R → S → Prop} (h : ∀ z fin, Q (.d (.int z)) fin) : m__law_b_stirred [.d (.int c), .d (.int a)] X Q := by
  unfold m__law_b_stirred b__law_b_stirred
  refine st_sem rfl ?_
  array_get_dec
  refine st_ite (fun q => ?_) (fun q => ?_)
  · array_get_dec
    exact h _ _
  · array_get_dec
    refine st_mul_i (okM_of 40 40 (by omega) (by decide)) ?_
    array_get_dec
    refine st_mul_i (okM_of 65 40 (by omega) (by decide)) ?_
    array_get_dec
    refine st_mul_i (okM_of 40 40 (by omega) (by omega)) ?_
    array_get_dec
    refine st_mul_i (okM_of 40 65 (by decide) (by omega)) ?_
    array_get_dec
    refine st_mul_i (okM_of 40 40 (by omega) (by omega)) ?_
    array_get_dec
    refine st_mul_i (okM_of 40 40 (by decide) (by omega)) ?_
    array_get_dec
    refine st_mul_i (okM_of 40 40 (by omega) (by decide)) ?_
    array_get_dec
    exact h _ _
theorem digit_ok {ns : List Int} {F : Nat} {xs : List D} {m : Int} (hc : Cup ns (F + 1) xs) (hm : 0 < m) (hm2 : m.natAbs < 2 ^ 8999) {X : XF} {Q : R → S → Prop} (h : ∀ r xs', Cup ns F xs' → 0 ≤ r → r < m → Q (.d (.int r)) [.l xs', .d (.int m)]) :
    m__law_b_digit [.l xs, .d (.int m)] X Q := by
  obtain ⟨a, v, rfl, h0, h1⟩ := hc
  unfold m__law_b_digit b__law_b_digit
  have ok : okD m := okD_of 8999 hm hm2
  refine st_sem rfl ?_
  refine st_join (fun s => ∃ (a' v' : Int) (x2 x3 : SV), s = [.l [litD ns, .int a', .int v'], .d (.int m), x2, x3, .no] ∧ 0 ≤ a' ∧ a' + (F : Int) ≤ 2 ^ 64) ?_ ?_
  · rintro s ⟨a', v', x2, x3, rfl, h0', h1'⟩
    array_get_dec
    refine st_fdiv_i ok ?_
    array_get_dec
    refine ⟨by decide, by simp, ?_⟩
    array_get_dec
    exact h _ _ ⟨a', v' / m, rfl, h0', h1'⟩ (Int.emod_nonneg _ (by omega)) (Int.emod_lt_of_pos _ hm)
  · intro k hk
    array_get_dec
    refine st_ite (fun q => ?_) (fun q => ?_)
    · have last : ∀ c : Int, fSeq (fSetIx 0 (fC (PyData.int 1)) (fOp opAdd (fVar 2) (fC (PyData.int 1)))) (fSetIx 0 (fC (PyData.int 2)) (fCall m__law_b_stirred [false, false] (fCons (fVar 3) (fCons (fVar 2) fNil))))
          ⟨k, fun r s => outR r s fun r' s' => Q r' (s'.take 2), fun _ => False, fun _ => False, fun n s => X n (s.take 2)⟩ [.l [litD ns, .int a, .int v], .d (.int m), .d (.int a), .d (.int c), .no] := by
        intro c
        array_get_dec
        refine ⟨by decide, by simp, ?_⟩
        array_get_dec
        refine stirred_ok h0 (by omega) fun z fin => ?_
        array_get_dec
        refine ⟨by decide, by simp, ?_⟩
        array_get_dec
        exact hk _ ⟨a + 1, z, _, _, rfl, by omega, by omega⟩
      array_get_dec
      refine st_mul_i (okM_of 40 65 (by decide) (by omega)) ?_
      array_get_dec
      refine st_ite (fun q2 => ?_) (fun q2 => ?_)
      · array_get_dec
        have q2 := of_decide_eq_true q2
        obtain ⟨z, hz⟩ := at_ok h0 q2
        refine st_ix_lit hz ?_
        array_get_dec
        exact last _
      · array_get_dec
        refine st_ite (fun q3 => ?_) (fun q3 => ?_)
        · have q3 : (0 : Int) < ns.length := by have := of_decide_eq_true q3; omega
          array_get_dec
          refine st_mul_i (okM_of 65 40 (by omega) (by decide)) ?_
          array_get_dec
          obtain ⟨z, hz⟩ := at_ok (ns := ns) (i := (a * 3) % (ns.length : Int)) (Int.emod_nonneg _ (by omega)) (Int.emod_lt_of_pos _ q3)
          refine st_ix_lit hz ?_
          array_get_dec
          refine st_mul_i (okM_of 65 40 (by omega) (by decide)) ?_
          array_get_dec
          exact last _
        · array_get_dec
          exact last _
    · array_get_dec
      exact hk _ ⟨a, v, _, _, rfl, h0, by omega⟩
/-- pairs of unlike numbers below n, the lesser one first, each once -/
structure Prs (n : Int) (ps : List (Int × Int)) : Prop where
  lt : ∀ p ∈ ps, 0 ≤ p.1 ∧ p.1 < p.2 ∧ p.2 < n
  nd : ps.Nodup
/-- unlike numbers from 0 on, below j -/
structure Bel (j : Int) (is : List Int) : Prop where
  lt : ∀ i ∈ is, 0 ≤ i ∧ i < j
  nd : is.Nodup
  few : is.length ≤ j.toNat
theorem Bel.filter {j : Int} {is : List Int} (h : Bel j is) (p : Int → Bool) : Bel j (is.filter p) := ⟨fun i hi => h.lt i (List.mem_filter.mp hi).1, h.nd.filter _, Nat.le_trans (List.length_filter_le _ _) h.few⟩
theorem Bel.add {j : Int} {is : List Int} (h : Bel j is) (h0 : 0 ≤ j) : Bel (j + 1) (is ++ [j]) := by
  refine ⟨fun i hi => ?_, List.nodup_append.mpr ⟨h.nd, by simp, fun a ha b hb => ?_⟩, by have := h.few; rw [List.length_append]; simp; omega⟩
  · rcases List.mem_append.mp hi with hi | hi
    · have := h.lt i hi; omega
    · obtain rfl := List.mem_singleton.mp hi; omega
  · obtain rfl := List.mem_singleton.mp hb
    have := h.lt a ha
    omega
theorem Bel.up {j k : Int} {is : List Int} (h : Bel j is) (l : j ≤ k) : Bel k is := ⟨fun i hi => by have := h.lt i hi; omega, h.nd, by have := h.few; omega⟩
theorem bel_range {n : Nat} : Bel (n : Int) (rangeI n) := by
  refine ⟨fun i hi => ?_, ?_, by unfold rangeI; simp⟩
  · obtain ⟨k, hk, rfl⟩ := List.mem_map.mp hi
    have := List.mem_range.mp hk
    omega
  · exact List.pairwise_map.mpr ((List.nodup_range (n := n)).imp fun {a b} h e => h (by omega))
theorem Prs.grow {n j : Int} {ps : List (Int × Int)} {is : List Int} (h : Prs n ps) (hj : ∀ p ∈ ps, p.2 < j) (hb : Bel j is) (hn : j < n) : Prs n (ps ++ is.map fun i => (i, j)) := by
  refine ⟨fun p hp => ?_, List.nodup_append.mpr ⟨h.nd, List.pairwise_map.mpr (hb.nd.imp fun {a b} h e => h (by simpa using e)), fun a ha b hb' => ?_⟩⟩
  · rcases List.mem_append.mp hp with hp | hp
    · exact h.lt p hp
    · obtain ⟨i, hi, rfl⟩ := List.mem_map.mp hp
      have := hb.lt i hi
      exact ⟨this.1, this.2, hn⟩
  · obtain ⟨i, hi, rfl⟩ := List.mem_map.mp hb'
    rintro rfl
    have := hj _ ha
    simp at this
theorem Bel.sub {j : Int} {c is : List Int} (h : Bel j c) (s : is.Sublist c) : Bel j is := ⟨fun i hi => h.lt i (s.subset hi), s.nodup h.nd, Nat.le_trans s.length_le h.few⟩
theorem atMap {α : Type} {f : α → D} {cs : List α} {r : Int} (h0 : 0 ≤ r) (h1 : r < (cs.length : Int)) : ∃ c ∈ cs, L2.atI (cs.map f) r = some (f c) := by
  obtain ⟨k, rfl⟩ := Int.eq_ofNat_of_zero_le h0
  have hk : k < cs.length := by omega
  exact ⟨cs[k], List.getElem_mem hk, L2.atI_nat (by rw [List.getElem?_map, List.getElem?_eq_getElem hk]; rfl)⟩
def intsD (c : List Int) : D := .list (c.map .int)
theorem pairs_ok {ns : List Int} {F : Nat} {xs : List D} {n kind : Int} (hc : Cup ns (F + 250) xs) (h0 : 0 ≤ n) (h10 : n ≤ 10) {X : XF} {Q : R → S → Prop}
    (h : ∀ ps xs', Cup ns F xs' → Prs n ps → ps.length ≤ 200 → Q (.own (.l (ps.map pairD))) [.l xs', .d (.int n), .d (.int kind)]) : m__law_b_pairs [.l xs, .d (.int n), .d (.int kind)] X Q := by
  unfold m__law_b_pairs b__law_b_pairs
  refine st_sem rfl ?_
  array_get_dec
  refine st_ite (fun q => ?_) (fun q => ?_)
  · array_get_dec
    refine ⟨by unfold lim62; omega, ?_⟩
    refine ⟨by rw [rangeD_len]; show _ ≤ 16777216; omega, ?_⟩
    array_get_dec
    rw [rangeD_map]
    refine comp_list PyData.int (fun k => pairD (k, k + 1)) _ (fun z hz kT hk => ?_) ?_
    · array_get_dec
      exact hk
    · have base : Prs n ((rangeI (n - 1).toNat).map fun k => (k, k + 1)) := by
        have b := bel_range (n := (n - 1).toNat)
        refine ⟨fun p hp => ?_, List.pairwise_map.mpr (b.nd.imp fun {a b} h e => h (by simpa using congrArg Prod.fst e))⟩
        obtain ⟨k, hk, rfl⟩ := List.mem_map.mp hp
        have := b.lt k hk
        exact ⟨this.1, by show k < k + 1; omega, by show k + 1 < n; omega⟩
      have bl : ((rangeI (n - 1).toNat).map fun k => ((k, k + 1) : Int × Int)).length ≤ 10 := by unfold rangeI; simp; omega
      have e1 : (rangeI (n - 1).toNat).map (fun k => pairD (k, k + 1)) = ((rangeI (n - 1).toNat).map fun k => ((k, k + 1) : Int × Int)).map pairD := by rw [List.map_map]; rfl
      rw [e1]
      generalize hps : ((rangeI (n - 1).toNat).map fun k => ((k, k + 1) : Int × Int)) = ps at base bl
      array_get_dec
      by_cases h2 : 2 < n
      · refine st_mul_l (by simp [h2]) (by simp [h2]) (by simp [h2]; show _ ≤ 16777216; omega) ?_
        rw [show (List.replicate (if decide (2 < n) = true then (1 : Int) else 0).toNat [PyData.tuple [.int 0, .int (n - 1)]]).flatten = [(0, n - 1)].map pairD by simp [h2]]
        array_get_dec
        refine st_add_l (by simp; show _ ≤ 16777216; omega) ?_
        rw [← List.map_append]
        array_get_dec
        refine h _ _ (hc.less (by omega)) ⟨fun p hp => ?_, List.nodup_append.mpr ⟨base.nd, by simp, fun a ha b hb => ?_⟩⟩ (by rw [List.length_append]; simp; omega)
        · rcases List.mem_append.mp hp with hp | hp
          · exact base.lt p hp
          · obtain rfl := List.mem_singleton.mp hp
            exact ⟨Int.le_refl 0, by show 0 < n - 1; omega, by show n - 1 < n; omega⟩
        · obtain rfl := List.mem_singleton.mp hb
          rintro rfl
          rw [← hps] at ha
          obtain ⟨k, hk, e⟩ := List.mem_map.mp ha
          have e1 : k = 0 := congrArg Prod.fst e
          have e2 : k + 1 = n - 1 := congrArg Prod.snd e
          omega
      · refine st_mul_l (by simp [h2]) (by simp [h2]) (by simp [h2]) ?_
        rw [show (List.replicate (if decide (2 < n) = true then (1 : Int) else 0).toNat [PyData.tuple [.int 0, .int (n - 1)]]).flatten = [] by simp [h2]]
        array_get_dec
        refine st_add_l (by simp; show _ ≤ 16777216; omega) ?_
        rw [List.append_nil]
        array_get_dec
        exact h _ _ (hc.less (by omega)) base (by omega)
  · array_get_dec
    refine digit_ok (F := F + 249) (hc.less (by omega)) (by decide) (by decide) fun wide xs1 hc1 hw0 hw1 => ?_
    array_get_dec
    refine ⟨by unfold lim62; omega, ?_⟩
    array_get_dec
    refine loop_range1 (hi := n) (fun j s => ∃ (ps : List (Int × Int)) (cs : List (List Int)) (xs : List D), s = [.l xs, .d (.int n), .d (.int kind), .no, .l (ps.map pairD), .d (.int wide), .l (cs.map intsD), .no, .no, .no, .no] ∧ Cup ns (F + 24 * (10 - j).toNat) xs ∧ Prs n ps ∧ (∀ p ∈ ps, p.2 < j) ∧ (ps.length : Int) ≤ 10 * j ∧ (∀ c ∈ cs, Bel j c) ∧ (cs.length : Int) = j + 1) ?_ ?_ ?_
    · rintro s ⟨ps, cs, xs, rfl, hc, hp, -, hl, -, -⟩
      array_get_dec
      exact h ps xs (hc.less (by omega)) hp (by omega)
    · rintro j s k hj hjn ⟨ps, cs, xs, rfl, hc, hp, hpj, hl, hcs, hcl⟩ hk
      array_get_dec
      rw [List.length_map]
      refine digit_ok (F := F + 24 * (10 - (j + 1)).toNat + 22) (hc.less (by omega)) (by omega) (by omega) fun r xs2 hc2 hr0 hr1 => ?_
      array_get_dec
      obtain ⟨c, hcm, hat⟩ := atMap (f := intsD) hr0 hr1
      have hb := hcs c hcm
      refine st_ix_l hat ?_
      unfold intsD
      array_get_dec
      have hcf := hb.few
      refine ⟨by rw [List.length_map]; show _ ≤ 16777216; omega, ?_⟩
      array_get_dec
      refine comp_inv (fun ys acc s => ∃ (d1 is : List Int) (ys' : List Int) (xs : List D), ys = ys'.map .int ∧ c = d1 ++ ys' ∧ acc = is.map .int ∧ is.Sublist d1 ∧ s = [.l xs, .d (.int n), .d (.int kind), .no, .l (ps.map pairD), .d (.int wide), .l (cs.map intsD), .d (.int j), .d (.list (c.map .int)), .no, .no] ∧ Cup ns (F + 24 * (10 - (j + 1)).toNat + 12 + ys'.length) xs) ?_ ?_ _ _ _ ⟨[], [], c, xs2, rfl, rfl, rfl, .slnil, rfl, hc2.less (by omega)⟩
      · rintro acc s ⟨d1, is, ys', xs, e1, rfl, rfl, hsub, rfl, hc⟩
        obtain rfl : ys' = [] := by simpa using e1.symm
        rw [List.append_nil] at *
        have hbi := hb.sub hsub
        array_get_dec
        have hif := hbi.few
        refine st_add_l (by simp; show _ ≤ 16777216; omega) ?_
        array_get_dec
        refine st_append (by rw [List.length_map]; show _ < 16777216; omega) ?_
        rw [show cs.map intsD ++ [PyData.list (is.map PyData.int ++ [.int j])] = (cs ++ [is ++ [j]]).map intsD by simp [intsD]]
        have hcs' : ∀ c ∈ cs ++ [is ++ [j]], Bel (j + 1) c := fun c hm => by
          rcases List.mem_append.mp hm with hm | hm
          · exact (hcs c hm).up (by omega)
          · obtain rfl := List.mem_singleton.mp hm
            exact hbi.add hj
        generalize hcs2 : cs ++ [is ++ [j]] = cs2 at hcs'
        have hcl2 : (cs2.length : Int) = j + 2 := by rw [← hcs2, List.length_append]; simp; omega
        refine st_put_own ?_
        have hbj : Bel j (rangeI j.toNat) := (bel_range (n := j.toNat)).up (by omega)
        have hjl : (rangeI j.toNat).length = j.toNat := by unfold rangeI; simp
        refine st_join (fun s => ∃ (is : List Int) (xs : List D), s = [.l xs, .d (.int n), .d (.int kind), .no, .l (ps.map pairD), .d (.int wide), .l (cs2.map intsD), .d (.int j), .d (.list (d1.map .int)), .l (is.map .int), .no] ∧ Bel j is ∧ Cup ns (F + 24 * (10 - (j + 1)).toNat) xs) ?_ (fun k2 hk2 => ?_)
        · rintro s ⟨is, xs, rfl, hbi, hc⟩
          refine st_join (fun s => ∃ (is : List Int) (xs : List D), s = [.l xs, .d (.int n), .d (.int kind), .no, .l (ps.map pairD), .d (.int wide), .l (cs2.map intsD), .d (.int j), .d (.list (d1.map .int)), .l (is.map .int), .no] ∧ Bel j is ∧ Cup ns (F + 24 * (10 - (j + 1)).toNat) xs) ?_ (fun k2 hk2 => ?_)
          · rintro s ⟨is, xs, rfl, hbi, hc⟩
            have hif := hbi.few
            array_get_dec
            refine ⟨by rw [List.length_map]; show _ ≤ 16777216; omega, ?_⟩
            array_get_dec
            refine comp_list PyData.int (fun i => pairD (i, j)) is (fun z hz kT hk => ?_) ?_
            · array_get_dec
              exact hk
            · array_get_dec
              rw [show is.map (fun i => pairD (i, j)) = (is.map fun i => ((i, j) : Int × Int)).map pairD by rw [List.map_map]; rfl]
              refine st_add_l (by simp; show _ ≤ 16777216; omega) ?_
              rw [← List.map_append]
              array_get_dec
              refine hk _ ⟨_, cs2, xs, rfl, hc.less (by omega), hp.grow hpj hbi hjn, fun p hm => ?_, by simp; omega, hcs', by omega⟩
              rcases List.mem_append.mp hm with hm | hm
              · have := hpj p hm; omega
              · obtain ⟨i, hi, rfl⟩ := List.mem_map.mp hm
                show j < j + 1
                omega
          · array_get_dec
            refine st_ite (fun q5 => ?_) (fun q5 => ?_)
            · array_get_dec
              refine ⟨by unfold lim62; omega, ?_⟩
              refine ⟨by rw [rangeD_len]; show _ ≤ 16777216; omega, ?_⟩
              array_get_dec
              rw [rangeD_map]
              refine comp_filter PyData.int PyData.int (fun i => decide (j - i ≤ wide)) _ (fun z hz kT kF hT hF => ?_) ?_
              · array_get_dec
                refine st_ite (fun q => ?_) (fun q => ?_)
                · array_get_dec
                  exact hT q
                · exact hF q
              · array_get_dec
                exact hk2 _ ⟨_, xs, rfl, hbj.filter _, hc⟩
            · array_get_dec
              exact hk2 _ ⟨is, xs, rfl, hbi, hc⟩
        · array_get_dec
          refine st_ite (fun q3 => ?_) (fun q3 => ?_)
          · array_get_dec
            refine ⟨by unfold lim62; omega, ?_⟩
            refine ⟨by rw [rangeD_len]; show _ ≤ 16777216; omega, ?_⟩
            array_get_dec
            rw [rangeD_map]
            refine comp_inv (fun ys acc s => ∃ (e1 iz : List Int) (ys' : List Int) (xs : List D), ys = ys'.map .int ∧ rangeI j.toNat = e1 ++ ys' ∧ acc = iz.map .int ∧ iz.Sublist e1 ∧ s = [.l xs, .d (.int n), .d (.int kind), .no, .l (ps.map pairD), .d (.int wide), .l (cs2.map intsD), .d (.int j), .d (.list (d1.map .int)), .l (is.map .int), .no] ∧ Cup ns (F + 24 * (10 - (j + 1)).toNat + ys'.length) xs) ?_ ?_ _ _ _ ?_
            · rintro acc s ⟨e1, iz, ys', xs, ee, er, rfl, hsub, rfl, hc⟩
              obtain rfl : ys' = [] := by simpa using ee.symm
              rw [List.append_nil] at er
              array_get_dec
              exact hk2 _ ⟨iz, xs, rfl, hbj.sub (er ▸ hsub), hc.less (by omega)⟩
            · rintro x ys acc s kT kF ⟨e1, iz, ys', xs, ee, er, rfl, hsub, rfl, hc⟩ hkT hkF
              match ys', ee with
              | z :: zs, ee =>
                obtain ⟨rfl, rfl⟩ : x = .int z ∧ ys = zs.map .int := by simpa using ee
                rw [List.length_cons] at hc
                array_get_dec
                refine digit_ok (F := F + 24 * (10 - (j + 1)).toNat + zs.length) hc (by decide) (by decide) fun r xs' hc' hr0 hr1 => ?_
                array_get_dec
                refine st_ite (fun q => ?_) (fun q => ?_)
                · array_get_dec
                  exact hkT _ _ ⟨e1 ++ [z], iz ++ [z], zs, xs', rfl, by rw [er]; simp, by simp, hsub.append (List.Sublist.refl _), rfl, hc'⟩
                · exact hkF _ ⟨e1 ++ [z], iz, zs, xs', rfl, by rw [er]; simp, rfl, hsub.trans (List.sublist_append_left _ _), rfl, hc'⟩
            · exact ⟨[], [], rangeI j.toNat, xs, rfl, rfl, rfl, .slnil, rfl, hc.less (by rw [hjl]; omega)⟩
          · array_get_dec
            exact hk2 _ ⟨is, xs, rfl, hbi, hc.less (by omega)⟩
      · rintro x ys acc s kT kF ⟨d1, is, ys', xs, e1, rfl, rfl, hsub, rfl, hc⟩ hkT hkF
        match ys', e1 with
        | z :: zs, e1 =>
          obtain ⟨rfl, rfl⟩ : x = .int z ∧ ys = zs.map .int := by simpa using e1
          rw [List.length_cons] at hc
          array_get_dec
          refine digit_ok (F := F + 24 * (10 - (j + 1)).toNat + 12 + zs.length) hc (by decide) (by decide) fun r xs' hc' hr0 hr1 => ?_
          array_get_dec
          refine st_ite (fun q => ?_) (fun q => ?_)
          · array_get_dec
            exact hkT _ _ ⟨d1 ++ [z], is ++ [z], zs, xs', rfl, by simp, by simp, hsub.append (List.Sublist.refl _), rfl, hc'⟩
          · exact hkF _ ⟨d1 ++ [z], is, zs, xs', rfl, by simp, rfl, hsub.trans (List.sublist_append_left _ _), rfl, hc'⟩
    · exact ⟨[], [[]], xs1, rfl, hc1.less (by omega), ⟨fun p hp => (nomatch hp), .nil⟩, fun p hp => (nomatch hp), by simp, fun c hc => by
        obtain rfl := List.mem_singleton.mp hc
        exact ⟨fun i hi => (nomatch hi), .nil, Nat.zero_le _⟩, by simp⟩
/-- numbers called otherwise -/
def calls (ls : List Int) (p : Int × Int) : Int × Int := (min (atZ ls p.1) (atZ ls p.2), max (atZ ls p.1) (atZ ls p.2))
theorem atZ_mem {ls : List Int} {i : Int} (h0 : 0 ≤ i) (h1 : i < (ls.length : Int)) : atZ ls i ∈ ls := by
  obtain ⟨k, rfl⟩ := Int.eq_ofNat_of_zero_le h0
  have hk : k < ls.length := by omega
  simp [atZ, List.getD_eq_getElem?_getD, List.getElem?_eq_getElem hk]
theorem atZ_inj {ls : List Int} {i j : Int} (hn : ls.Nodup) (h0 : 0 ≤ i) (h1 : i < (ls.length : Int)) (h2 : 0 ≤ j) (h3 : j < (ls.length : Int)) (e : atZ ls i = atZ ls j) : i = j := by
  obtain ⟨k, rfl⟩ := Int.eq_ofNat_of_zero_le h0
  obtain ⟨l, rfl⟩ := Int.eq_ofNat_of_zero_le h2
  have hk : k < ls.length := by omega
  have hl : l < ls.length := by omega
  simp only [atZ, List.getD_eq_getElem?_getD, Int.toNat_natCast, List.getElem?_eq_getElem hk, List.getElem?_eq_getElem hl, Option.getD_some] at e
  have := (List.getElem_inj hn).mp e
  omega
theorem calls_good {n : Int} {ls : List Int} {ps : List (Int × Int)} (hb : Bel n ls) (hl : (ls.length : Int) = n) (hp : Prs n ps) : (∀ p ∈ ps.map (calls ls), 0 ≤ p.1 ∧ p.1 < p.2 ∧ p.2 < n) ∧ (ps.map (calls ls)).Nodup := by
  refine ⟨fun p hm => ?_, ?_⟩
  · obtain ⟨q, hq, rfl⟩ := List.mem_map.mp hm
    obtain ⟨q1, q2, q3⟩ := hp.lt q hq
    have a1 := hb.lt _ (atZ_mem (ls := ls) (i := q.1) q1 (by omega))
    have a2 := hb.lt _ (atZ_mem (ls := ls) (i := q.2) (by omega) (by omega))
    have ne : atZ ls q.1 ≠ atZ ls q.2 := fun e => by
      have := atZ_inj hb.nd q1 (by omega) (by omega) (by omega) e
      omega
    unfold calls
    simp only
    omega
  · refine List.pairwise_map.mpr ((List.Pairwise.imp_of_mem ?_) hp.nd)
    intro p q hpm hqm hne e
    obtain ⟨p1, p2, p3⟩ := hp.lt p hpm
    obtain ⟨q1, q2, q3⟩ := hp.lt q hqm
    have e1 : min (atZ ls p.1) (atZ ls p.2) = min (atZ ls q.1) (atZ ls q.2) := congrArg Prod.fst e
    have e2 : max (atZ ls p.1) (atZ ls p.2) = max (atZ ls q.1) (atZ ls q.2) := congrArg Prod.snd e
    have cases : (atZ ls p.1 = atZ ls q.1 ∧ atZ ls p.2 = atZ ls q.2) ∨ (atZ ls p.1 = atZ ls q.2 ∧ atZ ls p.2 = atZ ls q.1) := by omega
    rcases cases with ⟨c1, c2⟩ | ⟨c1, c2⟩
    · have i1 := atZ_inj hb.nd p1 (by omega) q1 (by omega) c1
      have i2 := atZ_inj hb.nd (by omega) (by omega) (by omega) (by omega) c2
      exact hne (Prod.ext i1 i2)
    · have i1 := atZ_inj hb.nd p1 (by omega) (by omega) (by omega) c1
      have i2 := atZ_inj hb.nd (by omega) (by omega) q1 (by omega) c2
      omega
theorem web_ok {ns : List Int} {F : Nat} {xs : List D} {m : Int} (hc : Cup ns (F + 300) xs) (h0 : 0 ≤ m) (h10 : m ≤ 10) {X : XF} {Q : R → S → Prop}
    (h : ∀ n ts xs', Cup ns F xs' → Good n ts → n ≤ m → Q (.d (webD n ts)) [.l xs', .d (.int m)]) : m__law_b_web [.l xs, .d (.int m)] X Q := by
  unfold m__law_b_web b__law_b_web
  refine st_sem rfl ?_
  array_get_dec
  refine digit_ok (F := F + 299) (hc.less (by omega)) (by omega) (by omega) fun n xs1 hc1 hn0 hn1 => ?_
  array_get_dec
  refine ⟨by unfold lim62; omega, ?_⟩
  array_get_dec
  refine loop_range1 (hi := n) (fun k s => ∃ (ls : List Int) (xs : List D), s = [.l xs, .d (.int m), .d (.int n), .l (ls.map .int), .no, .no, .no, .no] ∧ Bel k ls ∧ (ls.length : Int) = k ∧ Cup ns (F + 280 + (n - k).toNat) xs) ?_ ?_ ⟨[], xs1, rfl, ⟨fun i hi => (nomatch hi), .nil, Nat.zero_le _⟩, rfl, hc1.less (by omega)⟩
  · rintro s ⟨ls, xs, rfl, hb, hl, hc⟩
    rw [show max 0 n = n by omega] at hb hl hc
    array_get_dec
    refine digit_ok (F := F + 279) (hc.less (by omega)) (by decide) (by decide) fun kind xs2 hc2 hk0 hk1 => ?_
    array_get_dec
    refine pairs_ok (F := F) (hc2.less (by omega)) hn0 (by omega) fun ps xs3 hc3 hp hpl => ?_
    array_get_dec
    refine loop_list pairD (fun l s => ∃ done : List (Int × Int), s = [.l xs3, .d (.int m), .d (.int n), .l (ls.map .int), .no, .l ((done.map (calls ls)).map pairD), .no, .no] ∧ ps = done ++ l) ?_ ?_ ps _ ⟨[], rfl, rfl⟩
    · rintro s ⟨done, rfl, e⟩
      rw [List.append_nil] at e
      subst e
      obtain ⟨g1, g2⟩ := calls_good hb hl hp
      array_get_dec
      refine st_sort_p rfl fun qs hqp hqs => ?_
      array_get_dec
      refine h n qs xs3 hc3 ⟨hn0, by omega, fun p hm => g1 p (hqp.mem_iff.mp hm), strict_of hqp g2 hqs, ?_⟩ (by omega)
      rw [hqp.length_eq, List.length_map]
      omega
    · rintro p l s k ⟨done, rfl, e⟩ hk
      have hpm : p ∈ ps := by rw [e]; simp
      obtain ⟨p1, p2, p3⟩ := hp.lt p hpm
      array_get_dec
      refine st_ix_l (atZ_ok p1 (by omega)) ?_
      array_get_dec
      refine st_ix_l (atZ_ok (by omega) (by omega)) ?_
      array_get_dec
      refine st_ix_l (atZ_ok p1 (by omega)) ?_
      array_get_dec
      refine st_ix_l (atZ_ok (by omega) (by omega)) ?_
      array_get_dec
      refine st_append ?_ ?_
      · rw [List.length_map, List.length_map]
        have := congrArg List.length e
        rw [List.length_append, List.length_cons] at this
        show _ < 16777216
        omega
      array_get_dec
      refine hk _ ⟨done ++ [p], ?_, by rw [e]; simp⟩
      rw [List.map_append, List.map_append]
      rfl
  · rintro k s kk hk hkn ⟨ls, xs, rfl, hb, hl, hc⟩ hkk
    array_get_dec
    refine digit_ok (F := F + 280 + (n - (k + 1)).toNat) (hc.less (by omega)) (by omega) (by omega) fun r xs2 hc2 hr0 hr1 => ?_
    array_get_dec
    refine st_insert (by rw [List.length_map]; show _ < 16777216; omega) hr0 (by omega) ?_
    array_get_dec
    refine hkk _ ⟨ls.take r.toNat ++ [k] ++ ls.drop r.toNat, xs2, by simp [List.map_take, List.map_drop]; rfl, ⟨fun i hi => ?_, ?_, ?_⟩, ?_, hc2⟩
    · have : i ∈ ls ∨ i = k := by
        simp only [List.mem_append, List.mem_singleton] at hi
        rcases hi with (hi | hi) | hi
        · exact .inl (List.mem_of_mem_take hi)
        · exact .inr hi
        · exact .inl (List.mem_of_mem_drop hi)
      rcases this with hi | rfl
      · have := hb.lt i hi; omega
      · omega
    · have hp : (ls.take r.toNat ++ [k] ++ ls.drop r.toNat).Perm (k :: ls) := by
        rw [List.append_assoc]
        show (ls.take r.toNat ++ k :: ls.drop r.toNat).Perm _
        refine List.perm_middle.trans ?_
        rw [List.take_append_drop]
      refine hp.nodup_iff.mpr (List.nodup_cons.mpr ⟨fun hm => ?_, hb.nd⟩)
      have := hb.lt k hm
      omega
    · simp; omega
    · simp; omega
theorem all_places_ok {n : Int} {ts : List (Int × Int)} (g : Good n ts) {X : XF} {Q : R → S → Prop} (h : ∀ fin, Q (.d (.tuple ((rangeI n.toNat).map .int))) fin) : m_all_places [.d (webD n ts)] X Q := by
  unfold m_all_places b_all_places
  have h0 := g.n0
  have h1 := g.n10
  refine st_sem rfl ?_
  array_get_dec
  refine ⟨⟨by omega, by omega, by omega, by omega, by omega⟩, ?_⟩
  rw [rangeD_map]
  array_get_dec
  exact h _
theorem cut_to {α : Type} {f : α → D} {ks : List α} {i : Nat} : slD.cutL (ks.map f) none (some (i : Int)) = (ks.take i).map f := by
  unfold slD.cutL
  rw [HT.sIx_none, HT.sIx_nat, List.length_map, Nat.sub_zero, List.drop_zero, ← List.map_take]
  congr 1
  by_cases h : i ≤ ks.length
  · rw [Nat.min_eq_left h]
  · rw [Nat.min_eq_right (by omega), List.take_of_length_le (by omega), List.take_of_length_le (by omega)]
theorem cut_from {α : Type} {f : α → D} {ks : List α} {i : Nat} : slD.cutL (ks.map f) (some (i : Int)) none = (ks.drop i).map f := by
  unfold slD.cutL
  rw [HT.sIx_none, HT.sIx_nat, List.length_map, ← List.map_drop, ← List.map_take]
  congr 1
  by_cases h : i ≤ ks.length
  · rw [Nat.min_eq_left h, List.take_of_length_le (by rw [List.length_drop]; omega)]
  · rw [Nat.min_eq_right (by omega), List.drop_eq_nil_of_le (by omega), List.drop_eq_nil_of_le (by omega), List.take_nil]
theorem enum_map {α : Type} [Inhabited α] {f : α → D} {ks : List α} {i : Nat} (h : i ≤ ks.length) : enumD ((ks.take i).map f) = (List.range i).map fun (j : Nat) => .tuple [.int (j : Int), f (ks.getD j default)] := by
  unfold enumD
  apply List.ext_getElem
  · simp; omega
  · intro n h1 h2
    have h3 : n < i := by simpa using h2
    simp [List.getElem?_eq_getElem (show n < ks.length by omega)]
theorem enum_ints {ks : List Int} {i : Nat} (h : i ≤ ks.length) : enumD ((ks.take i).map PyData.int) = (List.range i).map fun (j : Nat) => .tuple [.int (j : Int), .int (atZ ks (j : Int))] := enum_map h
theorem enum_ints' {ks : List Int} : enumD (ks.map PyData.int) = (List.range ks.length).map fun (j : Nat) => .tuple [.int (j : Int), .int (atZ ks (j : Int))] := by
  have h := enum_ints (ks := ks) (i := ks.length) (Nat.le_refl _)
  rw [List.take_length] at h
  exact h
theorem loop_nat {nx bk ct : S → Prop} {rt : R → S → Prop} {xx : XF} {f1 : FS} {fg : FG} {wp : List Nat} {g : Nat → D} {n : Nat} (I : Nat → S → Prop) (hend : ∀ s, I n s → nx s)
    (hstep : ∀ i s (k : S → Prop), i < n → I i s → (∀ s', I (i + 1) s' → k s') → fg (g i) s fun s1 => f1 ⟨fun s2 => k (wipeS s2 wp), rt, fun s2 => wipeK s2 wp nx, fun s2 => k (wipeS s2 wp), xx⟩ s1) {s : S} (h0 : I 0 s) : fLoop fg wp f1 ⟨nx, rt, bk, ct, xx⟩ ((List.range n).map g) s := by
  have go : ∀ (m i : Nat) (s : S), i + m = n → I i s → fLoop fg wp f1 ⟨nx, rt, bk, ct, xx⟩ ((List.range' i m).map g) s := by
    intro m
    induction m with
    | zero => intro i s e h; exact hend s (by rw [Nat.add_zero] at e; rw [← e]; exact h)
    | succ m ih =>
      intro i s e h
      rw [List.range'_succ, List.map_cons]
      exact hstep i s (fLoop fg wp f1 ⟨nx, rt, bk, ct, xx⟩ ((List.range' (i + 1) m).map g)) (by omega) h fun s' h' => ih (i + 1) s' (by omega) h'
  rw [List.range_eq_range']
  exact go n 0 s (by omega) h0
theorem any_int {ks : List Int} {z : Int} : ((ks.map PyData.int).any fun y => PyData.eqv y (.int z)) = decide (z ∈ ks) := by
  rw [List.any_map]
  apply Bool.eq_iff_iff.mpr
  simp only [List.any_eq_true, Function.comp, decide_eq_true_eq]
  constructor
  · rintro ⟨y, h, e⟩
    have e : decide (y = z) = true := by simpa [PyData.eqv] using e
    rw [← of_decide_eq_true e]; exact h
  · intro h; exact ⟨z, h, by simp [PyData.eqv]⟩
theorem st_in_il {ks : List Int} {z : Int} {k : R → Prop} (h : k (.d (.bool (decide (z ∈ ks))))) : cIn (.int z) (.list (ks.map .int)) k := by
  refine st_in_l shaped_int shaped_intsL ?_
  rw [any_int]; exact h
theorem st_in_it {ks : List Int} {z : Int} {k : R → Prop} (h : k (.d (.bool (decide (z ∈ ks))))) : cIn (.int z) (.tuple (ks.map .int)) k := by
  refine st_in_t shaped_int shaped_intsT ?_
  rw [any_int]; exact h
theorem st_notIn_il {ks : List Int} {z : Int} {k : R → Prop} (h : k (.d (.bool (!decide (z ∈ ks))))) : cNotIn (.int z) (.list (ks.map .int)) k := by
  refine st_notIn_l shaped_int shaped_intsL ?_
  rw [any_int]; exact h
theorem st_notIn_it {ks : List Int} {z : Int} {k : R → Prop} (h : k (.d (.bool (!decide (z ∈ ks))))) : cNotIn (.int z) (.tuple (ks.map .int)) k := by
  refine st_notIn_t shaped_int shaped_intsT ?_
  rw [any_int]; exact h
theorem nodup_atZ {ks : List Int} : ks.Nodup ↔ ∀ a b : Nat, b < a → a < ks.length → atZ ks b ≠ atZ ks a := by
  unfold List.Nodup
  rw [List.pairwise_iff_getElem]
  constructor
  · intro h a b hb ha e
    refine h b a (by omega) ha hb ?_
    simpa [atZ, List.getD_eq_getElem?_getD, List.getElem?_eq_getElem ha, List.getElem?_eq_getElem (show b < ks.length by omega)] using e
  · intro h i j hi hj hij e
    refine h j i hij hj ?_
    simpa [atZ, List.getD_eq_getElem?_getD, List.getElem?_eq_getElem hi, List.getElem?_eq_getElem hj] using e
theorem mem_take_atZ {ks : List Int} {i : Nat} {z : Int} (h : i ≤ ks.length) : z ∈ ks.take i ↔ ∃ j : Nat, j < i ∧ atZ ks j = z := by
  rw [List.mem_iff_getElem]
  constructor
  · rintro ⟨j, hj, e⟩
    have hj2 : j < i := by simp at hj; omega
    refine ⟨j, hj2, ?_⟩
    rw [← e]
    simp [atZ, List.getD_eq_getElem?_getD, List.getElem?_eq_getElem (show j < ks.length by omega)]
  · rintro ⟨j, hj, e⟩
    refine ⟨j, by simp; omega, ?_⟩
    rw [← e]
    simp [atZ, List.getD_eq_getElem?_getD, List.getElem?_eq_getElem (show j < ks.length by omega)]
theorem atZ_in {ks : List Int} {i : Nat} (h : i < ks.length) : atZ ks (i : Int) ∈ ks := by
  simp [atZ, List.getD_eq_getElem?_getD, List.getElem?_eq_getElem h]
local macro_rules
  | `(tactic| sizeOf_list_dec) => `(tactic| first | with_reducible refine st_in_il ?_ | with_reducible refine st_in_it ?_ | with_reducible refine st_notIn_il ?_ | with_reducible refine st_notIn_it ?_ | with_reducible refine st_ne_ll ?_)
noncomputable def dec (P : Prop) : Bool := @decide P (Classical.propDecidable P)
theorem dec_t {P : Prop} (h : P) : dec P = true := by unfold dec; simp [h]
theorem dec_f {P : Prop} (h : ¬ P) : dec P = false := by unfold dec; simp [h]
theorem atZ_last {ks : List Int} (h : 0 < ks.length) : L2.atI (ks.map PyData.int) (-1) = some (.int (atZ ks ((ks.length : Int) - 1))) := by
  have e := atZ_ok (ks := ks) (i := (ks.length : Int) - 1) (by omega) (by omega)
  have q : L2.ixN (ks.map PyData.int).length (-1) = L2.ixN (ks.map PyData.int).length ((ks.length : Int) - 1) := by
    unfold L2.ixN
    rw [List.length_map, if_neg (by omega), if_pos (by omega), if_pos (by omega), if_pos (by omega)]
    congr 2
  unfold L2.atI at e ⊢
  rw [q]; exact e
def Up (ps : List (Int × Int)) : Prop := ps.Pairwise (fun p q => ltPr p q = true)
theorem ltPr_iff {p q : Int × Int} : ltPr p q = true ↔ p.1 < q.1 ∨ p.1 = q.1 ∧ p.2 < q.2 := by
  unfold ltPr
  simp only [Bool.or_eq_true, decide_eq_true_eq, Bool.and_eq_true, beq_iff_eq]
theorem Up.nodup {ps : List (Int × Int)} (h : Up ps) : ps.Nodup := h.imp fun {a b} h e => by
  subst e
  have := ltPr_iff.mp h
  omega
/-- the rows gone through up to (i, j): just the pairs for which f says yes -/
structure Upto (n : Int) (f : Int → Int → Prop) (i j : Int) (ts : List (Int × Int)) : Prop where
  up : Up ts
  mem : ∀ p, p ∈ ts ↔ 0 ≤ p.1 ∧ p.1 < p.2 ∧ p.2 < n ∧ f p.1 p.2 ∧ (p.1 < i ∨ p.1 = i ∧ p.2 < j)
  few : (ts.length : Int) ≤ 10 * i + j
theorem Upto.start {n : Int} {f : Int → Int → Prop} : Upto n f 0 0 [] := ⟨.nil, fun p => ⟨fun h => (nomatch h), fun ⟨h1, h2, h3, h4, h5⟩ => by omega⟩, by simp⟩
theorem Upto.row {n i : Int} {f : Int → Int → Prop} {ts : List (Int × Int)} (hi : 0 ≤ i) (h : Upto n f i 0 ts) : Upto n f i (i + 1) ts := ⟨h.up, fun p => by
  rw [h.mem]
  constructor
  · rintro ⟨h1, h2, h3, h4, h5⟩; exact ⟨h1, h2, h3, h4, by omega⟩
  · rintro ⟨h1, h2, h3, h4, h5⟩; exact ⟨h1, h2, h3, h4, by omega⟩, by have := h.few; omega⟩
theorem Upto.no {n i j : Int} {f : Int → Int → Prop} {ts : List (Int × Int)} (h : Upto n f i j ts) (hf : ¬ f i j) : Upto n f i (j + 1) ts := ⟨h.up, fun p => by
  rw [h.mem]
  constructor
  · rintro ⟨h1, h2, h3, h4, h5⟩; exact ⟨h1, h2, h3, h4, by omega⟩
  · rintro ⟨h1, h2, h3, h4, h5⟩
    refine ⟨h1, h2, h3, h4, ?_⟩
    by_cases e : p.1 = i ∧ p.2 = j
    · rw [e.1, e.2] at h4; exact (hf h4).elim
    · omega, by have := h.few; omega⟩
theorem Upto.next {n i j : Int} {f : Int → Int → Prop} {ts : List (Int × Int)} (h : Upto n f i j ts) (hj : n ≤ j) (hj2 : j ≤ 10) : Upto n f (i + 1) 0 ts := ⟨h.up, fun p => by
  rw [h.mem]
  constructor
  · rintro ⟨h1, h2, h3, h4, h5⟩; exact ⟨h1, h2, h3, h4, by omega⟩
  · rintro ⟨h1, h2, h3, h4, h5⟩; exact ⟨h1, h2, h3, h4, by omega⟩, by have := h.few; omega⟩
/-- all the rows -/
structure Whole (n : Int) (f : Int → Int → Prop) (ts : List (Int × Int)) : Prop where
  up : Up ts
  mem : ∀ p, p ∈ ts ↔ 0 ≤ p.1 ∧ p.1 < p.2 ∧ p.2 < n ∧ f p.1 p.2
  few : ts.length ≤ 1000
theorem Whole.good {n : Int} {f : Int → Int → Prop} {ts : List (Int × Int)} (h : Whole n f ts) (h0 : 0 ≤ n) (h10 : n ≤ 10) : Good n ts := ⟨h0, h10, fun p hp => by have := (h.mem p).mp hp; exact ⟨this.1, this.2.1, this.2.2.1⟩, h.up, h.few⟩
/-- rising pairs below ten are few -/
theorem up_few {ps : List (Int × Int)} (h : Up ps) (hb : ∀ p ∈ ps, 0 ≤ p.1 ∧ p.1 < 10 ∧ 0 ≤ p.2 ∧ p.2 < 10) : ps.length ≤ 100 := by
  have go : ∀ (l : List Nat), l.Pairwise (· < ·) → (∀ x ∈ l, x < 100) → ∀ m, (∀ x ∈ l, m ≤ x) → m ≤ 100 → l.length + m ≤ 100 := by
    intro l
    induction l with
    | nil => intro _ _ m _ h; simpa using h
    | cons a l ih =>
      intro hp hx m hm _
      obtain ⟨h1, h2⟩ := List.pairwise_cons.mp hp
      have := ih h2 (fun x hx' => hx x (List.mem_cons_of_mem _ hx')) (a + 1) (fun x hx' => h1 x hx') (by have := hx a List.mem_cons_self; omega)
      have := hm a List.mem_cons_self
      rw [List.length_cons]
      omega
  have h2 : (ps.map fun p => (p.1 * 10 + p.2).toNat).Pairwise (· < ·) := by
    refine List.pairwise_map.mpr (List.Pairwise.imp_of_mem ?_ h)
    intro a b ha hb' hab
    have h1 := hb a ha
    have h2 := hb b hb'
    have h3 := ltPr_iff.mp hab
    omega
  have := go _ h2 (fun x hx => by
    obtain ⟨p, hp, rfl⟩ := List.mem_map.mp hx
    have := hb p hp
    omega) 0 (fun _ _ => Nat.zero_le _) (by decide)
  simpa using this
theorem Whole.of {n : Int} {f : Int → Int → Prop} {ts : List (Int × Int)} (h10 : n ≤ 10) (hu : Up ts) (hm : ∀ p, p ∈ ts ↔ 0 ≤ p.1 ∧ p.1 < p.2 ∧ p.2 < n ∧ f p.1 p.2) : Whole n f ts := ⟨hu, hm, Nat.le_trans (up_few hu fun p hp => by have := (hm p).mp hp; omega) (by decide)⟩
theorem good_few {n : Int} {ts : List (Int × Int)} (g : Good n ts) : ts.length ≤ 100 := up_few g.up fun p hp => by have := g.ties p hp; have := g.n10; omega
def prs : List Int → List (Int × Int)
  | [] => []
  | k :: ks => (ks.map fun z => (k, z)) ++ prs ks
theorem prs_len : ∀ ks : List Int, (prs ks).length ≤ ks.length * ks.length
  | [] => Nat.le_refl _
  | k :: ks => by
    have h := prs_len ks
    unfold prs
    rw [List.length_append, List.length_map, List.length_cons]
    have e : (ks.length + 1) * (ks.length + 1) = ks.length * ks.length + ks.length + ks.length + 1 := by
      rw [Nat.add_mul, Nat.mul_add]; omega
    omega
theorem prs_mem {ks : List Int} (h : ks.Pairwise (· < ·)) {p : Int × Int} : p ∈ prs ks ↔ p.1 ∈ ks ∧ p.2 ∈ ks ∧ p.1 < p.2 := by
  induction ks with
  | nil => simp [prs]
  | cons k ks ih =>
    obtain ⟨h1, h2⟩ := List.pairwise_cons.mp h
    unfold prs
    rw [List.mem_append, List.mem_map, ih h2]
    constructor
    · rintro (⟨z, hz, rfl⟩ | ⟨a, b, c⟩)
      · exact ⟨List.mem_cons_self, List.mem_cons_of_mem _ hz, h1 z hz⟩
      · exact ⟨List.mem_cons_of_mem _ a, List.mem_cons_of_mem _ b, c⟩
    · rintro ⟨a, b, c⟩
      rcases List.mem_cons.mp a with e | a
      · rcases List.mem_cons.mp b with e2 | b
        · omega
        · exact .inl ⟨p.2, b, Prod.ext e.symm rfl⟩
      · rcases List.mem_cons.mp b with e2 | b
        · have := h1 _ a; omega
        · exact .inr ⟨a, b, c⟩
theorem prs_up {ks : List Int} (h : ks.Pairwise (· < ·)) : Up (prs ks) := by
  induction ks with
  | nil => exact .nil
  | cons k ks ih =>
    obtain ⟨h1, h2⟩ := List.pairwise_cons.mp h
    unfold prs
    refine List.pairwise_append.mpr ⟨List.pairwise_map.mpr (h2.imp fun {a b} hab => (ltPr_iff (p := (k, a)) (q := (k, b))).mpr (.inr ⟨rfl, hab⟩)), ih h2, fun p hp q hq => ?_⟩
    obtain ⟨z, hz, rfl⟩ := List.mem_map.mp hp
    have := h1 _ ((prs_mem h2).mp hq).1
    exact ltPr_iff.mpr (.inl this)
theorem rangeI_up {n : Nat} : (rangeI n).Pairwise (· < ·) := List.pairwise_map.mpr ((List.pairwise_lt_range (n := n)).imp fun {a b} h => by omega)
theorem pairs_of_ok {ks : List Int} (hl : ks.length ≤ 100) {X : XF} {Q : R → S → Prop} (h : ∀ fin, Q (.own (.l ((prs ks).map pairD))) fin) : m_pairs_of [.d (.tuple (ks.map .int))] X Q := by
  unfold m_pairs_of b_pairs_of
  have pl := prs_len ks
  have pl2 : ks.length * ks.length ≤ 100 * 100 := Nat.mul_le_mul hl hl
  refine st_sem rfl ?_
  array_get_dec
  rw [enum_ints']
  refine loop_nat (fun i s => ∃ done, s = [.d (.tuple (ks.map .int)), .l (done.map pairD), .no, .no, .no] ∧ done ++ prs (ks.drop i) = prs ks) ?_ ?_ ⟨[], rfl, rfl⟩
  · rintro s ⟨done, rfl, e⟩
    rw [List.drop_length] at e
    have e : done ++ [] = prs ks := e
    rw [List.append_nil] at e
    subst e
    array_get_dec
    exact h _
  · rintro i s k hi ⟨done, rfl, e⟩ hk
    have e1 : ks.drop i = atZ ks i :: ks.drop (i + 1) := by
      rw [List.drop_eq_getElem_cons hi]
      simp [atZ, List.getD_eq_getElem?_getD, List.getElem?_eq_getElem hi]
    have dl : (done ++ prs (ks.drop i)).length ≤ 10000 := by rw [e]; omega
    have e3 : prs (atZ ks i :: ks.drop (i + 1)) = ((ks.drop (i + 1)).map fun z => ((atZ ks i, z) : Int × Int)) ++ prs (ks.drop (i + 1)) := rfl
    rw [e1, e3] at e dl
    rw [List.length_append, List.length_append, List.length_map] at dl
    array_get_dec
    rw [show (i : Int) + 1 = ((i + 1 : Nat) : Int) by omega, cut_from]
    refine ⟨by rw [List.length_map]; show _ ≤ 16777216; omega, ?_⟩
    array_get_dec
    refine comp_list PyData.int (fun z => pairD (atZ ks i, z)) _ (fun z hz kT hkT => ?_) ?_
    · array_get_dec
      exact hkT
    · array_get_dec
      rw [show (ks.drop (i + 1)).map (fun z => pairD (atZ ks i, z)) = ((ks.drop (i + 1)).map fun z => ((atZ ks i, z) : Int × Int)).map pairD by rw [List.map_map]; rfl]
      refine st_extend (by rw [List.length_map, List.length_map, List.length_map]; show _ ≤ 16777216; omega) ?_
      rw [← List.map_append]
      array_get_dec
      exact hk _ ⟨_, rfl, by rw [List.append_assoc]; exact e⟩
theorem st_notIn_pt {ts : List (Int × Int)} {a b : Int} {k : R → Prop} (h : k (.d (.bool (!decide ((a, b) ∈ ts))))) : cNotIn (.tuple [.int a, .int b]) (.tuple (ts.map pairD)) k := by
  refine st_notIn_t (shaped_pairD (p := (a, b))) shaped_pairs ?_
  rw [show (PyData.tuple [.int a, .int b]) = pairD (a, b) from rfl, any_pair]
  exact h
local macro_rules
  | `(tactic| sizeOf_list_dec) => `(tactic| with_reducible refine st_notIn_pt ?_)
theorem is_rising_int_ok {ks : List Int} (hs : ks.Pairwise (· < ·)) (hl : ks.length ≤ 1000) {X : XF} {Q : R → S → Prop} (h : ∀ fin, Q (.d (.bool true)) fin) : m_is_rising [.d (.tuple (ks.map .int))] X Q := by
  unfold m_is_rising b_is_rising
  refine st_sem rfl ?_
  array_get_dec
  rw [List.length_map]
  refine ⟨by unfold lim62; omega, ?_⟩
  array_get_dec
  refine ⟨by rw [rangeD_len]; show _ ≤ 16777216; omega, ?_⟩
  array_get_dec
  refine comp_true (fun x hx kT hk => ?_) ?_
  · obtain ⟨t, ht, rfl⟩ := List.mem_map.mp (show x ∈ (List.range ((ks.length : Int) - 1).toNat).map fun (k : Nat) => PyData.int (0 + (k : Int)) from hx)
    have ht := List.mem_range.mp ht
    have h1 : t < ks.length := by omega
    have h2 : t + 1 < ks.length := by omega
    array_get_dec
    refine st_ix_t (atZ_ok (by omega) (by omega)) ?_
    array_get_dec
    refine st_ix_t (atZ_ok (by omega) (by omega)) ?_
    array_get_dec
    have lt := List.pairwise_iff_getElem.mp hs t (t + 1) h1 h2 (Nat.lt_succ_self t)
    have e1 : atZ ks (0 + (t : Int)) = ks[t] := by simp [atZ, List.getD_eq_getElem?_getD, List.getElem?_eq_getElem h1]
    have e2 : atZ ks (0 + (t : Int) + 1) = ks[t + 1] := by
      rw [show (0 + (t : Int) + 1) = ((t + 1 : Nat) : Int) by omega]
      simp [atZ, List.getD_eq_getElem?_getD, List.getElem?_eq_getElem h2]
    rw [e1, e2, decide_eq_true lt]
    exact hk
  · array_get_dec
    refine st_all_true ?_
    array_get_dec
    exact h _
/-- a set of places -/
structure Set' (n : Int) (ks : List Int) : Prop where
  up : ks.Pairwise (· < ·)
  lt : ∀ z ∈ ks, 0 ≤ z ∧ z < n
theorem Set'.few {n : Int} {ks : List Int} (h : Set' n ks) (h10 : n ≤ 10) : ks.length ≤ 10 := by
  have go : ∀ (l : List Int), l.Pairwise (· < ·) → (∀ x ∈ l, x < 10) → ∀ m : Int, 0 ≤ m → (∀ x ∈ l, m ≤ x) → m ≤ 10 → (l.length : Int) + m ≤ 10 := by
    intro l
    induction l with
    | nil => intro _ _ m _ _ h; simpa using h
    | cons a l ih =>
      intro hp hx m h0 hm _
      obtain ⟨h1, h2⟩ := List.pairwise_cons.mp hp
      have ha := hx a List.mem_cons_self
      have hma := hm a List.mem_cons_self
      have := ih h2 (fun x hx' => hx x (List.mem_cons_of_mem _ hx')) (a + 1) (by omega) (fun x hx' => by have := h1 x hx'; omega) (by omega)
      rw [List.length_cons]
      omega
  have := go ks h.up (fun x hx => by have := h.lt x hx; omega) 0 (by omega) (fun x hx => (h.lt x hx).1) (by omega)
  omega
theorem Set'.sub {n : Int} {ks ls : List Int} (h : Set' n ks) (s : ls.Sublist ks) : Set' n ls := ⟨h.up.sublist s, fun z hz => h.lt z (s.subset hz)⟩
theorem Set'.at_lt {n : Int} {ks : List Int} (h : Set' n ks) {i j : Int} (h0 : 0 ≤ i) (hij : i < j) (hj : j < ks.length) : atZ ks i < atZ ks j := by
  obtain ⟨a, rfl⟩ := Int.eq_ofNat_of_zero_le h0
  obtain ⟨b, rfl⟩ := Int.eq_ofNat_of_zero_le (show 0 ≤ j by omega)
  have h1 : a < ks.length := by omega
  have h2 : b < ks.length := by omega
  have lt := List.pairwise_iff_getElem.mp h.up a b h1 h2 (by omega)
  simpa [atZ, List.getD_eq_getElem?_getD, List.getElem?_eq_getElem h1, List.getElem?_eq_getElem h2] using lt
theorem sort_one : ∀ {as bs : List (List Int)}, as.Perm bs → as.Pairwise (fun a b => lexL b a = false) → bs.Pairwise (fun a b => lexL b a = false) → as = bs
  | [], bs, h, _, _ => h.symm.eq_nil.symm
  | a :: as, [], h, _, _ => by cases h.eq_nil
  | a :: as, b :: bs, h, h1, h2 => by
    obtain ⟨p1, p2⟩ := List.pairwise_cons.mp h1
    obtain ⟨q1, q2⟩ := List.pairwise_cons.mp h2
    have e : a = b := by
      rcases List.mem_cons.mp (h.mem_iff.mp List.mem_cons_self) with e | ha
      · exact e
      · rcases List.mem_cons.mp (h.mem_iff.mpr List.mem_cons_self) with e | hb
        · exact e.symm
        · exact lexL_eq (q1 a ha) (p1 b hb)
    subst e
    rw [sort_one h.cons_inv p2 q2]
theorem tupsOf_map : ∀ nss : List (List Int), tupsOf (nss.map tupI) = some nss
  | [] => rfl
  | ns :: nss => by
    show (match tupOf (tupI ns), tupsOf (nss.map tupI) with | some n, some ns => some (n :: ns) | _, _ => none) = _
    rw [tupsOf_map nss, show tupOf (tupI ns) = some ns from intsOf_map' ns]
theorem st_sort_t {nss : List (List Int)} {k : R → Prop} (hne : 2 ≤ nss.length → ∀ ns ∈ nss, ns ≠ []) (h : ∀ mss : List (List Int), mss.Perm nss → mss.Pairwise (fun a b => lexL b a = false) → k (.own (.l (mss.map tupI)))) : bSorted [.list (nss.map tupI)] k := by
  cases nss with
  | nil => exact fun ms hp hs => by rw [hp.eq_nil]; exact h [] (List.Perm.refl _) .nil
  | cons ns nss =>
    show (match pairsOf ((ns :: nss).map tupI) with | some _ => bSortP [.list ((ns :: nss).map tupI)] k | none => bSortT [.list ((ns :: nss).map tupI)] k)
    generalize e0 : (ns :: nss) = all at hne h ⊢
    clear e0
    cases e : pairsOf (all.map tupI) with
    | none =>
      show (match tupsOf (all.map tupI) with
        | some nss => (2 ≤ nss.length → ∀ ns ∈ nss, ns ≠ []) ∧ ∀ mss : List (List Int), mss.Perm nss → mss.Pairwise (fun a b => lexL b a = false) → k (.own (.l (mss.map tupI)))
        | none => False)
      rw [tupsOf_map]
      exact ⟨hne, h⟩
    | some ps =>
      show (match pairsOf (all.map tupI) with | some ps => ∀ qs : List (Int × Int), qs.Perm ps → qs.Pairwise (fun p q => ltPr q p = false) → k (.own (.l (qs.map pairD))) | none => False)
      rw [e]
      intro qs hp hs
      have e1 := pairsOf_eq e
      have inj : ∀ {as bs : List (List Int)}, as.map tupI = bs.map tupI → as = bs := fun {as bs} h => by
        have := congrArg tupsOf h
        rw [tupsOf_map, tupsOf_map] at this
        exact Option.some.inj this
      have e2 : all = ps.map fun p => [p.1, p.2] := inj (by
        rw [e1, List.map_map]
        rfl)
      have e3 : qs.map pairD = (qs.map fun p => [p.1, p.2]).map tupI := by rw [List.map_map]; rfl
      rw [e3]
      refine h _ (by rw [e2]; exact hp.map _) ?_
      rw [List.pairwise_map]
      refine hs.imp fun {p q} hpq => ?_
      have : ¬ (q.1 < p.1 ∨ q.1 = p.1 ∧ q.2 < p.2) := fun hc => by
        unfold ltPr at hpq
        simp only [Bool.or_eq_false_iff, Bool.and_eq_false_iff, decide_eq_false_iff_not, beq_eq_false_iff_ne, ne_eq] at hpq
        omega
      rw [lexL_cons, lexL_cons]
      by_cases a : q.1 = p.1
      · rw [if_pos a]
        by_cases b : q.2 = p.2
        · rw [if_pos b]; rfl
        · rw [if_neg b]
          exact decide_eq_false (by omega)
      · rw [if_neg a]
        exact decide_eq_false (by omega)
theorem st_eq_ll {ns ms : List Int} {k : R → Prop} (h : k (.d (.bool (decide (ns = ms))))) : cEq (.list (ns.map .int)) (.list (ms.map .int)) k := by
  refine st_eq (x := .list (ns.map .int)) (y := .list (ms.map .int)) shaped_intsL shaped_intsL ?_
  show k (.d (.bool (PyData.eqvAll (ns.map .int) (ms.map .int))))
  rw [eqv_ints]
  exact h
theorem st_lcK {it : FI} {fg : FG} {wp : List Nat} {t : FT} {e : FE} {X : XF} {s : S} {Q : R → S → Prop} (h : it X s fun xs s1 => xs.length ≤ sizeLine ∧ wipeK s1 wp fun s2 => fCompL (fun _ _ => False) fg wp t e Q xs [] s2) : fLcL it fg wp t e X s Q := h
local macro_rules
  | `(tactic| sizeOf_list_dec) => `(tactic| first | with_reducible refine st_lcK ?_ | with_reducible refine st_rowOf ?_)
def mat (n : Nat) (f : Int → Int → Bool) : List (List D) := (rangeI n).map fun i => (rangeI n).map fun j => PyData.bool (f i j)
def Tb (ts : List (Int × Int)) (a b : Int) : Bool := decide ((min a b, max a b) ∈ ts)
theorem Tb_symm {ts : List (Int × Int)} {a b : Int} : Tb ts a b = Tb ts b a := by
  unfold Tb
  rw [Int.min_comm, Int.max_comm]
theorem rangeI_get {n k : Nat} (h : k < n) : (rangeI n)[k]? = some (k : Int) := by
  unfold rangeI
  simp [h]
theorem rangeI_at {n k : Nat} (h : k < (rangeI n).length) : (rangeI n)[k] = (k : Int) := (List.getElem?_eq_some_iff.mp (rangeI_get (by rw [rangeI_len] at h; exact h))).2
theorem mat_len {n : Nat} {f : Int → Int → Bool} : (mat n f).length = n := by unfold mat; rw [List.length_map, rangeI_len]
theorem mat_at {n k : Nat} {f : Int → Int → Bool} (h : k < (mat n f).length) : (mat n f)[k] = (rangeI n).map fun j => PyData.bool (f k j) := by
  have hk : k < n := by rw [mat_len] at h; exact h
  have e : (mat n f)[k]? = some ((rangeI n).map fun j => PyData.bool (f k j)) := by
    unfold mat
    rw [List.getElem?_map, rangeI_get hk]
    rfl
  exact (List.getElem?_eq_some_iff.mp e).2
theorem mat_getD {n k : Nat} {f : Int → Int → Bool} (h : k < n) : (mat n f).getD k [] = (rangeI n).map fun j => PyData.bool (f k j) := by
  have h2 : k < (mat n f).length := by rw [mat_len]; exact h
  rw [List.getD_eq_getElem?_getD, List.getElem?_eq_getElem h2, Option.getD_some, mat_at]
theorem mat_set {n i j : Nat} {f : Int → Int → Bool} (hi : i < n) (hj : j < n) : (mat n f).set i (((mat n f).getD i []).set j (.bool true)) = mat n (fun a b => f a b || (decide (a = i) && decide (b = j))) := by
  rw [mat_getD hi]
  apply List.ext_getElem
  · rw [List.length_set, mat_len, mat_len]
  · intro a h1 h2
    have ha : a < n := by rw [mat_len] at h2; exact h2
    rw [List.getElem_set, mat_at, mat_at]
    by_cases e : i = a
    · subst e
      rw [if_pos rfl]
      apply List.ext_getElem
      · rw [List.length_set, List.length_map, List.length_map]
      · intro b h3 h4
        rw [List.getElem_set, List.getElem_map, List.getElem_map, rangeI_at]
        by_cases e2 : j = b
        · subst e2
          rw [if_pos rfl]
          simp
        · rw [if_neg e2]
          have : ¬ ((b : Int) = j) := by omega
          simp [this]
    · rw [if_neg e]
      refine List.map_congr_left fun b hb => ?_
      have : ¬ ((a : Int) = i) := by omega
      simp [this]
theorem Tb_snoc {done : List (Int × Int)} {i j : Int} (h : i < j) : Tb (done ++ [(i, j)]) = fun a b => (Tb done a b || (decide (a = i) && decide (b = j))) || (decide (a = j) && decide (b = i)) := by
  funext a b
  unfold Tb
  rw [Bool.eq_iff_iff]
  simp only [List.mem_append, List.mem_singleton, Prod.mk.injEq, decide_eq_true_eq, Bool.or_eq_true, Bool.and_eq_true]
  constructor
  · rintro (h1 | h1)
    · exact .inl (.inl h1)
    · by_cases hab : a ≤ b
      · exact .inl (.inr (by omega))
      · exact .inr (by omega)
  · rintro ((h1 | h1) | h1)
    · exact .inl h1
    · exact .inr (by omega)
    · exact .inr (by omega)
theorem rows_of_ok {n : Int} {ts : List (Int × Int)} (g : Good n ts) {X : XF} {Q : R → S → Prop} (h : ∀ fin, Q (.own (.ll (mat n.toNat (Tb ts)))) fin) : m_rows_of [.d (webD n ts)] X Q := by
  unfold m_rows_of b_rows_of
  have n0 := g.n0
  have n10 := g.n10
  refine st_sem rfl ?_
  array_get_dec
  refine all_places_ok g fun fin => ?_
  array_get_dec
  refine ⟨by rw [List.length_map, rangeI_len]; show _ ≤ 16777216; omega, ?_⟩
  array_get_dec
  refine compL_list PyData.int (fun i => (rangeI n.toNat).map fun j => PyData.bool (Tb [] i j)) _ (fun i hi kT hkT => ?_) ?_
  · array_get_dec
    refine st_mul_l (xs := [PyData.bool false]) (n := n) (by omega) (by omega) (by show 1 * n.toNat ≤ 16777216; omega) ?_
    array_get_dec
    have e : (List.replicate n.toNat [PyData.bool false]).flatten = (rangeI n.toNat).map fun j => PyData.bool (Tb [] i j) := by
      generalize n.toNat = m
      induction m with
      | zero => rfl
      | succ m ih =>
        have e2 : rangeI (m + 1) = rangeI m ++ [(m : Int)] := by
          unfold rangeI
          rw [List.range_succ, List.map_append]
          rfl
        rw [List.replicate_succ', List.flatten_append, ih, e2, List.map_append]
        rfl
    rw [e]
    exact hkT
  · array_get_dec
    refine loop_list pairD (fun l s => ∃ done, s = [.d (webD n ts), .ll (mat n.toNat (Tb done)), .no, .no, .no] ∧ ts = done ++ l) ?_ ?_ _ _ ⟨[], rfl, rfl⟩
    · rintro s ⟨done, rfl, e⟩
      rw [List.append_nil] at e
      subst e
      array_get_dec
      exact h _
    · rintro p l s k ⟨done, rfl, e⟩ hk
      have hp := g.ties p (by rw [e]; simp)
      obtain ⟨i, j⟩ := p
      obtain ⟨h0, h1, h2⟩ := hp
      simp only at h0 h1 h2
      obtain ⟨a, rfl⟩ := Int.eq_ofNat_of_zero_le h0
      obtain ⟨b, rfl⟩ := Int.eq_ofNat_of_zero_le (show 0 ≤ j by omega)
      array_get_dec
      refine st_setLL ?_
      array_get_dec
      refine ⟨_, _, _, rfl, rfl, rfl, by omega, by rw [mat_len, Int.toNat_natCast]; omega, by omega, by rw [Int.toNat_natCast, mat_getD (by omega), List.length_map, rangeI_len]; omega, ?_⟩
      rw [Int.toNat_natCast, Int.toNat_natCast, mat_set (by omega) (by omega)]
      dsimp only [List.set]
      refine st_setLL ?_
      array_get_dec
      refine ⟨_, _, _, rfl, rfl, rfl, by omega, by rw [mat_len, Int.toNat_natCast]; omega, by omega, by rw [Int.toNat_natCast, mat_getD (by omega), List.length_map, rangeI_len]; omega, ?_⟩
      rw [Int.toNat_natCast, Int.toNat_natCast, mat_set (by omega) (by omega)]
      dsimp only [List.set]
      refine hk _ ⟨done ++ [((a : Int), (b : Int))], ?_, by rw [e]; simp⟩
      rw [Tb_snoc h1]
      rfl
theorem row_at {n : Nat} {f : Int → Int → Bool} {p : Int} (h0 : 0 ≤ p) (h1 : p < n) : L2.atI ((mat n f).map PyData.list) p = some (.list ((rangeI n).map fun j => PyData.bool (f p j))) := by
  obtain ⟨a, rfl⟩ := Int.eq_ofNat_of_zero_le h0
  have h2 : a < (mat n f).length := by rw [mat_len]; omega
  exact L2.atI_nat (by rw [List.getElem?_map, List.getElem?_eq_getElem h2, mat_at]; rfl)
theorem cell_at {n : Nat} {f : Int → Bool} {p : Int} (h0 : 0 ≤ p) (h1 : p < n) : L2.atI ((rangeI n).map fun j => PyData.bool (f j)) p = some (.bool (f p)) := by
  obtain ⟨a, rfl⟩ := Int.eq_ofNat_of_zero_le h0
  have h2 : a < (rangeI n).length := by rw [rangeI_len]; omega
  exact L2.atI_nat (by rw [List.getElem?_map, List.getElem?_eq_getElem h2, rangeI_at]; rfl)
def ff (g : Int → Int → Bool) : Nat → List Int → List Int → List Int → List (List Int)
  | 0, _, _, _ => []
  | n + 1, ch, lf, sh => if lf = [] ∧ sh = [] then [ch] else (List.range lf.length).flatMap fun (i : Nat) => ff g n (ch ++ [atZ lf i]) ((lf.drop (i + 1)).filter (g (atZ lf i))) ((sh ++ lf.take i).filter (g (atZ lf i)))
theorem sum_le {α : Type} {f g : α → Nat} : ∀ {l : List α}, (∀ a ∈ l, f a ≤ g a) → (l.map f).sum ≤ (l.map g).sum
  | [], _ => Nat.le_refl _
  | a :: l, h => by
    rw [List.map_cons, List.map_cons, List.sum_cons, List.sum_cons]
    have := h a List.mem_cons_self
    have := sum_le (l := l) fun b hb => h b (List.mem_cons_of_mem _ hb)
    omega
theorem sum_pow : ∀ L : Nat, ((List.range L).map fun i => 2 ^ (L - 1 - i)).sum + 1 ≤ 2 ^ L
  | 0 => by decide
  | L + 1 => by
    have ih := sum_pow L
    rw [List.range_succ_eq_map, List.map_cons, List.map_map, List.sum_cons]
    have e : ((List.range L).map ((fun i => 2 ^ (L + 1 - 1 - i)) ∘ Nat.succ)) = (List.range L).map fun i => 2 ^ (L - 1 - i) := by
      refine List.map_congr_left fun i hi => ?_
      have := List.mem_range.mp hi
      show 2 ^ (L + 1 - 1 - (i + 1)) = 2 ^ (L - 1 - i)
      rw [show L + 1 - 1 - (i + 1) = L - 1 - i by omega]
    rw [e, show L + 1 - 1 - 0 = L by omega, Nat.pow_succ]
    omega
theorem ff_len {g : Int → Int → Bool} : ∀ (n : Nat) (ch lf sh : List Int), (ff g n ch lf sh).length ≤ 2 ^ lf.length
  | 0, _, _, _ => Nat.zero_le _
  | n + 1, ch, lf, sh => by
    unfold ff
    split
    · exact Nat.one_le_two_pow
    · rw [List.length_flatMap]
      refine Nat.le_trans (sum_le (g := fun i => 2 ^ (lf.length - 1 - i)) fun i hi => ?_) (Nat.le_trans (Nat.le_succ _) (sum_pow lf.length))
      refine Nat.le_trans (ff_len n _ _ _) (Nat.pow_le_pow_right (by decide) ?_)
      have := List.length_filter_le (g (atZ lf i)) (lf.drop (i + 1))
      rw [List.length_drop] at this
      omega
theorem full_from_ok {n : Nat} {f : Int → Int → Bool} {w : Bool} : ∀ (N : Nat) (ch lf sh : List Int), lf.length < N → lf.length + sh.length ≤ 10 → ch.length + lf.length ≤ 10 → (∀ z ∈ lf ++ sh, 0 ≤ z ∧ z < n) → ∀ (X : XF) (Q : R → S → Prop),
    (∀ fin, Q (.own (.l ((ff (fun a b => f a b == w) N ch lf sh).map tupI))) fin) → m_full_from N [.d (.list ((mat n f).map .list)), .d (.bool w), .d (.tuple (ch.map .int)), .d (.list (lf.map .int)), .d (.list (sh.map .int))] X Q
  | 0, _, _, _, h, _, _, _ => by omega
  | N + 1, ch, lf, sh, hN, h10, hc, hz => fun X Q h => by
    show semOf 5 11 (b_full_from (m_full_from N)) _ X Q
    unfold b_full_from
    refine st_sem rfl ?_
    array_get_dec
    refine st_eq_ll (ms := []) ?_
    array_get_dec
    have rest : ¬ (lf = [] ∧ sh = []) → fSeq (fAsg 5 (fLst fNil)) (fSeq (fFor (iEnumL (fCons (fVar 3) fNil)) (gTp [gNm 6, gNm 7]) [6, 7, 8, 9, 10] (fSeq (fAsg 8 (fLc (iSeq (fSl slD (fVar 3) (fPart (fOp opAdd (fVar 6) (fC (.int 1)))) (fNoPart))) (gNm 9) [9] (fB (fOp cEq (fOp ixD2 (fOp ixD2 (fVar 0) (fVar 7)) (fVar 9)) (fVar 1))) (fVar 9)))
        (fSeq (fAsg 10 (fLc (iSeq (fOp opAdd (fVar 4) (fSl slD (fVar 3) (fNoPart) (fPart (fVar 6))))) (gNm 9) [9] (fB (fOp cEq (fOp ixD2 (fOp ixD2 (fVar 0) (fVar 7)) (fVar 9)) (fVar 1))) (fVar 9)))
        (fDrop (fLm 5 mExtend (fCons (fCall (m_full_from N) [false, false, false, false, false] (fCons (fVar 0) (fCons (fVar 1) (fCons (fOp opAdd (fVar 2) (fTup (fCons (fVar 7) (fNil)))) (fCons (fVar 8) (fCons (fVar 10) (fNil))))))) (fNil)))))))
        (fRet (fVar 5))) ⟨fun s => Q (.d .none) (s.take 5), fun r s => outR r s fun r' s' => Q r' (s'.take 5), fun _ => False, fun _ => False, fun n s => X n (s.take 5)⟩ [.d (.list ((mat n f).map .list)), .d (.bool w), .d (.tuple (ch.map .int)), .d (.list (lf.map .int)), .d (.list (sh.map .int)), .no, .no, .no, .no, .no, .no] := by
      intro hne
      array_get_dec
      rw [enum_ints']
      refine loop_nat (fun i s => s = [.d (.list ((mat n f).map .list)), .d (.bool w), .d (.tuple (ch.map .int)), .d (.list (lf.map .int)), .d (.list (sh.map .int)), .l (((List.range i).flatMap fun (i : Nat) => ff (fun a b => f a b == w) N (ch ++ [atZ lf i]) ((lf.drop (i + 1)).filter fun b => f (atZ lf i) b == w) ((sh ++ lf.take i).filter fun b => f (atZ lf i) b == w)).map tupI), .no, .no, .no, .no, .no] ∧ ((List.range i).flatMap fun (i : Nat) => ff (fun a b => f a b == w) N (ch ++ [atZ lf i]) ((lf.drop (i + 1)).filter fun b => f (atZ lf i) b == w) ((sh ++ lf.take i).filter fun b => f (atZ lf i) b == w)).length ≤ 1024 * i) ?_ ?_ ⟨rfl, Nat.le_refl _⟩
      · rintro s ⟨rfl, -⟩
        array_get_dec
        have e : ff (fun a b => f a b == w) (N + 1) ch lf sh = (List.range lf.length).flatMap fun (i : Nat) => ff (fun a b => f a b == w) N (ch ++ [atZ lf i]) ((lf.drop (i + 1)).filter fun b => f (atZ lf i) b == w) ((sh ++ lf.take i).filter fun b => f (atZ lf i) b == w) := by
          show (if lf = [] ∧ sh = [] then _ else _) = _
          rw [if_neg hne]
        rw [← e]
        exact h _
      · rintro i s k hi ⟨rfl, hl⟩ hk
        have hp := hz (atZ lf i) (List.mem_append_left _ (atZ_in hi))
        have lt1 : (lf.take i).length ≤ 10 := by rw [List.length_take]; omega
        have ld : (lf.drop (i + 1)).length = lf.length - (i + 1) := List.length_drop
        have lt2 : (lf.take i).length = i := by rw [List.length_take]; omega
        have f1 := List.length_filter_le (fun b => f (atZ lf i) b == w) (lf.drop (i + 1))
        have f2 := List.length_filter_le (fun b => f (atZ lf i) b == w) (sh ++ lf.take i)
        rw [List.length_append, lt2] at f2
        array_get_dec
        rw [show (i : Int) + 1 = ((i + 1 : Nat) : Int) by omega, cut_from]
        refine ⟨by rw [List.length_map]; show _ ≤ 16777216; omega, ?_⟩
        array_get_dec
        refine comp_filter PyData.int PyData.int (fun b => f (atZ lf i) b == w) _ (fun z hz2 kT kF hT hF => ?_) ?_
        · have hzz := hz z (List.mem_append_left _ ((List.drop_sublist _ _).subset hz2))
          array_get_dec
          refine st_ix_l (row_at hp.1 hp.2) ?_
          array_get_dec
          refine st_ix_l (cell_at hzz.1 hzz.2) ?_
          array_get_dec
          refine st_ite (fun q => ?_) (fun q => ?_)
          · array_get_dec
            exact hT q
          · exact hF q
        · array_get_dec
          rw [cut_to]
          refine st_add_l (by rw [List.length_map, List.length_map]; show _ ≤ 16777216; omega) ?_
          rw [← List.map_append]
          array_get_dec
          refine ⟨by rw [List.length_map, List.length_append]; show _ ≤ 16777216; omega, ?_⟩
          array_get_dec
          refine comp_filter PyData.int PyData.int (fun b => f (atZ lf i) b == w) _ (fun z hz2 kT kF hT hF => ?_) ?_
          · have hzz : 0 ≤ z ∧ z < n := by
              rcases List.mem_append.mp hz2 with hz2 | hz2
              · exact hz z (List.mem_append_right _ hz2)
              · exact hz z (List.mem_append_left _ ((List.take_sublist _ _).subset hz2))
            array_get_dec
            refine st_ix_l (row_at hp.1 hp.2) ?_
            array_get_dec
            refine st_ix_l (cell_at hzz.1 hzz.2) ?_
            array_get_dec
            refine st_ite (fun q => ?_) (fun q => ?_)
            · array_get_dec
              exact hT q
            · exact hF q
          · array_get_dec
            refine st_add_t (by rw [List.length_map]; show _ + 1 ≤ 16777216; omega) ?_
            rw [show ch.map PyData.int ++ [PyData.int (atZ lf i)] = (ch ++ [atZ lf i]).map PyData.int by simp]
            array_get_dec
            refine full_from_ok N _ _ _ (by omega) (by omega) (by rw [List.length_append, List.length_singleton]; omega) (fun z hz2 => ?_) _ _ fun fin => ?_
            · rcases List.mem_append.mp hz2 with hz2 | hz2
              · exact hz z (List.mem_append_left _ ((List.drop_sublist _ _).subset (List.mem_filter.mp hz2).1))
              · rcases List.mem_append.mp (List.mem_filter.mp hz2).1 with hz2 | hz2
                · exact hz z (List.mem_append_right _ hz2)
                · exact hz z (List.mem_append_left _ ((List.take_sublist _ _).subset hz2))
            · have bl := ff_len (g := fun a b => f a b == w) N (ch ++ [atZ lf i]) ((lf.drop (i + 1)).filter fun b => f (atZ lf i) b == w) ((sh ++ lf.take i).filter fun b => f (atZ lf i) b == w)
              have bl2 : 2 ^ ((lf.drop (i + 1)).filter fun b => f (atZ lf i) b == w).length ≤ 2 ^ 10 := Nat.pow_le_pow_right (by decide) (by omega)
              array_get_dec
              refine st_extend (by rw [List.length_map, List.length_map]; show _ ≤ 16777216; omega) ?_
              array_get_dec
              refine hk _ ⟨?_, ?_⟩
              · rw [List.range_succ, List.flatMap_append, List.map_append, List.flatMap_cons, List.flatMap_nil, List.append_nil]
                rfl
              · rw [List.range_succ, List.flatMap_append, List.length_append, List.flatMap_cons, List.flatMap_nil, List.append_nil]
                omega
    refine st_ite (fun q => ?_) (fun q => ?_)
    · have q := of_decide_eq_true q
      array_get_dec
      refine st_eq_ll (ms := []) ?_
      array_get_dec
      refine st_ite (fun q2 => ?_) (fun q2 => ?_)
      · have q2 := of_decide_eq_true q2
        array_get_dec
        have e : ff (fun a b => f a b == w) (N + 1) ch lf sh = [ch] := by
          show (if lf = [] ∧ sh = [] then _ else _) = _
          rw [if_pos ⟨q, q2⟩]
        rw [e] at h
        exact h _
      · have q2 := of_decide_eq_false q2
        exact rest fun z => q2 z.2
    · have q := of_decide_eq_false q
      exact rest fun z => q z.1
theorem lexL_app {a b : List Int} : ∀ c : List Int, lexL (c ++ a) (c ++ b) = lexL a b
  | [] => rfl
  | x :: c => by
    rw [List.cons_append, List.cons_append, lexL_cons, if_pos rfl]
    exact lexL_app c
theorem ff_pre {g : Int → Int → Bool} : ∀ (n : Nat) (ch lf sh : List Int), ∀ S ∈ ff g n ch lf sh, ∃ T, S = ch ++ T
  | 0, _, _, _, S, h => by cases h
  | n + 1, ch, lf, sh, S, h => by
    unfold ff at h
    split at h
    · exact ⟨[], by rw [List.append_nil]; exact List.mem_singleton.mp h⟩
    · obtain ⟨i, hi, h⟩ := List.mem_flatMap.mp h
      obtain ⟨T, rfl⟩ := ff_pre n _ _ _ S h
      exact ⟨atZ lf i :: T, by simp⟩
theorem ff_up {g : Int → Int → Bool} : ∀ (n : Nat) (ch lf sh : List Int), lf.Pairwise (· < ·) → (ff g n ch lf sh).Pairwise (fun a b => lexL a b = true)
  | 0, _, _, _, _ => .nil
  | n + 1, ch, lf, sh, hu => by
    unfold ff
    split
    · exact List.pairwise_singleton _ _
    · refine List.pairwise_flatMap.mpr ⟨fun i hi => ff_up n _ _ _ ((hu.sublist (List.drop_sublist _ _)).filter _), (List.pairwise_lt_range (n := lf.length)).imp_of_mem fun {i j} hi hj hij => ?_⟩
      intro S hS T hT
      obtain ⟨S', rfl⟩ := ff_pre n _ _ _ S hS
      obtain ⟨T', rfl⟩ := ff_pre n _ _ _ T hT
      have hj := List.mem_range.mp hj
      have lt : atZ lf i < atZ lf j := by
        have := List.pairwise_iff_getElem.mp hu i j (by omega) hj hij
        simpa [atZ, List.getD_eq_getElem?_getD, List.getElem?_eq_getElem hj, List.getElem?_eq_getElem (show i < lf.length by omega)] using this
      rw [List.append_assoc, List.append_assoc, lexL_app]
      show lexL (atZ lf i :: S') (atZ lf j :: T') = true
      rw [lexL_cons, if_neg (by omega)]
      exact decide_eq_true lt
theorem ff_ne {g : Int → Int → Bool} : ∀ (n : Nat) (ch lf : List Int), lf.length < n → ff g n ch lf [] ≠ []
  | 0, _, _, h => by omega
  | n + 1, ch, lf, h => by
    unfold ff
    split
    · simp
    · rename_i hne
      have hl : 0 < lf.length := by
        cases lf with
        | nil => exact (hne ⟨rfl, rfl⟩).elim
        | cons _ _ => simp
      intro e
      have ih := ff_ne (g := g) n (ch ++ [atZ lf ((0 : Nat) : Int)]) ((lf.drop 1).filter (g (atZ lf ((0 : Nat) : Int)))) (by
        have := List.length_filter_le (g (atZ lf ((0 : Nat) : Int))) (lf.drop 1)
        rw [List.length_drop] at this
        omega)
      exact ih (List.flatMap_eq_nil_iff.mp e 0 (List.mem_range.mpr hl))
/-- the full sets of n places -/
def fulls (w : Bool) (n : Int) (ts : List (Int × Int)) : List (List Int) := ff (fun a b => Tb ts a b == w) 16 [] (rangeI n.toNat) []
theorem fulls_ne {w : Bool} {n : Int} {ts : List (Int × Int)} (g : Good n ts) : fulls w n ts ≠ [] := ff_ne _ _ _ (by rw [rangeI_len]; have := g.n10; omega)
theorem fulls_up {w : Bool} {n : Int} {ts : List (Int × Int)} : (fulls w n ts).Pairwise (fun a b => lexL a b = true) := ff_up _ _ _ _ (List.pairwise_map.mpr ((List.pairwise_lt_range (n := n.toNat)).imp fun {a b} h => by omega))
theorem fulls_len {w : Bool} {n : Int} {ts : List (Int × Int)} (g : Good n ts) : (fulls w n ts).length ≤ 1024 := by
  refine Nat.le_trans (ff_len _ _ _ _) ?_
  rw [rangeI_len]
  exact Nat.le_trans (Nat.pow_le_pow_right (by decide) (show n.toNat ≤ 10 by have := g.n10; omega)) (by decide)
theorem fulls_some {w : Bool} {n : Int} {ts : List (Int × Int)} : 2 ≤ (fulls w n ts).length → ∀ s ∈ fulls w n ts, s ≠ [] := by
  intro hl s hs
  unfold fulls ff at hl hs
  split at hl
  · simp at hl
  · split at hs
    · contradiction
    · obtain ⟨i, hi, h⟩ := List.mem_flatMap.mp hs
      obtain ⟨T, rfl⟩ := ff_pre _ _ _ _ s h
      simp
theorem ff_short {g : Int → Int → Bool} : ∀ (n : Nat) (ch lf sh : List Int), ∀ S ∈ ff g n ch lf sh, S.length ≤ ch.length + lf.length
  | 0, _, _, _, S, h => by cases h
  | n + 1, ch, lf, sh, S, h => by
    unfold ff at h
    split at h
    · rw [List.mem_singleton.mp h]; omega
    · obtain ⟨i, hi, h⟩ := List.mem_flatMap.mp h
      have hi := List.mem_range.mp hi
      have ih := ff_short n _ _ _ S h
      have := List.length_filter_le (g (atZ lf i)) (lf.drop (i + 1))
      rw [List.length_drop] at this
      rw [List.length_append, List.length_singleton] at ih
      omega
theorem fulls_short {w : Bool} {n : Int} {ts : List (Int × Int)} (g : Good n ts) : ∀ s ∈ fulls w n ts, s.length ≤ 10 := fun s hs => by
  have h1 := ff_short _ _ _ _ s hs
  rw [rangeI_len, List.length_nil] at h1
  have := g.n10
  omega
theorem full_crowds_in_ok {n : Int} {ts : List (Int × Int)} (g : Good n ts) {X : XF} {Q : R → S → Prop} (h : ∀ fin, Q (.own (.l ((fulls true n ts).map tupI))) fin) : m_full_crowds_in [.d (webD n ts)] X Q := by
  unfold m_full_crowds_in b_full_crowds_in
  have n0 := g.n0
  have n10 := g.n10
  refine st_sem rfl ?_
  array_get_dec
  refine rows_of_ok g fun fin => ?_
  array_get_dec
  refine all_places_ok g fun fin => ?_
  array_get_dec
  refine full_from_ok (n := n.toNat) (f := Tb ts) (w := true) 16 [] (rangeI n.toNat) [] (by rw [rangeI_len]; omega) (by rw [rangeI_len]; show _ + 0 ≤ 10; omega) (by rw [rangeI_len]; show 0 + _ ≤ 10; omega) (fun z hz => by
    rw [List.append_nil] at hz
    exact rangeI_mem.mp hz) _ _ fun fin => ?_
  array_get_dec
  refine st_sort_t fulls_some fun mss hp hs => ?_
  have e : mss = fulls true n ts := sort_one hp hs (fulls_up.imp fun h => lexL_asym h)
  rw [e]
  array_get_dec
  exact h _
def Clq (g : Int → Int → Bool) (T : List Int) : Prop := T.Pairwise fun a b => g a b = true
theorem ff_ext {g : Int → Int → Bool} (hs : ∀ a b, g a b = g b a) : ∀ (n : Nat) (ch lf sh T : List Int), lf.length < n → lf.Nodup → T.Sublist lf → Clq g T → (∀ z ∈ sh, ∃ u ∈ T, g u z = false) → ∃ S ∈ ff g n ch lf sh, ch.length + T.length ≤ S.length
  | 0, _, _, _, _, h, _, _, _, _ => by omega
  | n + 1, ch, lf, sh, T, hn, nd, hT, hc, hsh => by
    by_cases he : lf = [] ∧ sh = []
    · refine ⟨ch, ?_, ?_⟩
      · unfold ff
        rw [if_pos he]
        exact List.mem_singleton.mpr rfl
      · rw [he.1] at hT
        rw [List.sublist_nil.mp hT]
        exact Nat.le_refl _
    have unf : ff g (n + 1) ch lf sh = (List.range lf.length).flatMap fun (i : Nat) => ff g n (ch ++ [atZ lf i]) ((lf.drop (i + 1)).filter (g (atZ lf i))) ((sh ++ lf.take i).filter (g (atZ lf i))) := by
      show (if lf = [] ∧ sh = [] then _ else _) = _
      rw [if_neg he]
    -- the first that goes with all of T
    have go : ∀ (suf pre : List Int), lf = pre ++ suf → (∀ z ∈ pre, ∃ u ∈ T, g u z = false) → T.Sublist suf → ∃ S ∈ ff g (n + 1) ch lf sh, ch.length + T.length ≤ S.length := by
      intro suf
      induction suf with
      | nil =>
        intro pre e hp hsub
        have eT := List.sublist_nil.mp hsub
        subst eT
        have p0 : pre = [] := by
          cases pre with
          | nil => rfl
          | cons z r =>
            obtain ⟨u, hu, _⟩ := hp z List.mem_cons_self
            cases hu
        have s0 : sh = [] := by
          cases sh with
          | nil => rfl
          | cons z r =>
            obtain ⟨u, hu, _⟩ := hsh z List.mem_cons_self
            cases hu
        exact (he ⟨by rw [e, p0]; rfl, s0⟩).elim
      | cons p suf ih =>
        intro pre e hp hsub
        have hl : pre.length < lf.length := by rw [e]; simp
        have eat : atZ lf (pre.length : Nat) = p := by
          unfold atZ
          rw [e, Int.toNat_natCast, List.getD_eq_getElem?_getD, List.getElem?_append_right (Nat.le_refl _), Nat.sub_self]
          rfl
        have edr : lf.drop (pre.length + 1) = suf := by
          rw [e, List.drop_append, List.drop_eq_nil_of_le (by omega)]
          simp
        have etk : lf.take pre.length = pre := by
          rw [e, List.take_append, List.take_of_length_le (Nat.le_refl _)]
          simp
        have use : ∀ T', T'.Sublist suf → Clq g T' → (∀ u ∈ T', g p u = true) → (∀ z ∈ sh ++ pre, g p z = true → ∃ u ∈ T', g u z = false) → T.length ≤ T'.length + 1 → ∃ S ∈ ff g (n + 1) ch lf sh, ch.length + T.length ≤ S.length := by
          intro T' h1 h2 h3 h4 h5
          have fl := List.length_filter_le (g p) suf
          have ll : lf.length = pre.length + (suf.length + 1) := by rw [e, List.length_append]; rfl
          have nds : suf.Nodup := by
            rw [e] at nd
            exact (List.nodup_cons.mp (List.nodup_append.mp nd).2.1).2
          obtain ⟨S, hS, hSl⟩ := ff_ext hs n (ch ++ [p]) (suf.filter (g p)) ((sh ++ pre).filter (g p)) T' (by omega) (nds.filter _) (by
            have := h1.filter (g p)
            rw [List.filter_eq_self.mpr h3] at this
            exact this) h2 fun z hz => h4 z (List.mem_filter.mp hz).1 (List.mem_filter.mp hz).2
          refine ⟨S, ?_, ?_⟩
          · rw [unf]
            refine List.mem_flatMap.mpr ⟨pre.length, List.mem_range.mpr hl, ?_⟩
            rw [eat, edr, etk]
            exact hS
          · rw [List.length_append, List.length_singleton] at hSl
            omega
        have all : ∀ z ∈ sh ++ pre, ∃ u ∈ T, g u z = false := fun z hz => by
          rcases List.mem_append.mp hz with hz | hz
          · exact hsh z hz
          · exact hp z hz
        rcases List.sublist_cons_iff.mp hsub with hr | ⟨T', rfl, hr⟩
        · by_cases hall : ∀ u ∈ T, g u p = true
          · refine use T hr hc (fun u hu => by rw [hs]; exact hall u hu) (fun z hz _ => all z hz) (by omega)
          · obtain ⟨u, hnu⟩ := Classical.not_forall.mp hall
            obtain ⟨hu1, hg1⟩ := Classical.not_imp.mp hnu
            refine ih (pre ++ [p]) (by rw [e]; simp) (fun z hz => ?_) hr
            rcases List.mem_append.mp hz with hz | hz
            · exact hp z hz
            · obtain rfl := List.mem_singleton.mp hz
              exact ⟨u, hu1, by simpa using hg1⟩
        · obtain ⟨c1, c2⟩ := List.pairwise_cons.mp hc
          refine use T' hr c2 c1 (fun z hz hgz => ?_) (by rw [List.length_cons]; exact Nat.le_refl _)
          obtain ⟨u, hu, hg⟩ := all z hz
          rcases List.mem_cons.mp hu with rfl | hu
          · rw [hgz] at hg; cases hg
          · exact ⟨u, hu, hg⟩
    exact go lf [] rfl (fun z hz => nomatch hz) hT
/-- a crowd, or an apart set, of a web -/
def TClq (w : Bool) (ts : List (Int × Int)) (T : List Int) : Prop := T.Pairwise fun a b => Tb ts a b = w
theorem rangeI_nd {n : Nat} : (rangeI n).Nodup := (List.pairwise_map.mpr ((List.pairwise_lt_range (n := n)).imp fun {a b} h => by omega) : (rangeI n).Pairwise (· < ·)).imp fun {a b} h => by omega
theorem fulls_ext {w : Bool} {n : Int} {ts : List (Int × Int)} (g : Good n ts) {T : List Int} (hT : T.Sublist (rangeI n.toNat)) (hc : TClq w ts T) : ∃ S ∈ fulls w n ts, T.length ≤ S.length := by
  obtain ⟨S, hS, hl⟩ := ff_ext (g := fun a b => Tb ts a b == w) (fun a b => by rw [Tb_symm]) 16 [] (rangeI n.toNat) [] T (by rw [rangeI_len]; have := g.n10; omega) rangeI_nd hT (hc.imp fun h => by simpa using h) (fun z hz => nomatch hz)
  exact ⟨S, hS, by simpa using hl⟩
theorem rangeI_snoc {n : Nat} : rangeI (n + 1) = rangeI n ++ [(n : Int)] := by
  unfold rangeI
  rw [List.range_succ, List.map_append]
  rfl
theorem rising_sub : ∀ (n : Nat) (T : List Int), T.Pairwise (· < ·) → (∀ z ∈ T, 0 ≤ z ∧ z < n) → T.Sublist (rangeI n)
  | 0, T, _, h => by
    cases T with
    | nil => exact List.nil_sublist _
    | cons z r => have := h z List.mem_cons_self; omega
  | n + 1, T, hu, h => by
    rw [rangeI_snoc]
    rcases List.eq_nil_or_concat T with rfl | ⟨T', z, e⟩
    · exact List.nil_sublist _
    · rw [List.concat_eq_append] at e
      subst e
      obtain ⟨u1, _, u3⟩ := List.pairwise_append.mp hu
      have hz := h z (by simp)
      by_cases e : z = n
      · subst e
        refine List.Sublist.append (rising_sub n T' u1 fun y hy => ?_) (List.Sublist.refl _)
        have := u3 y hy n (by simp)
        have := h y (by simp [hy])
        omega
      · refine (rising_sub n _ hu fun y hy => ?_).trans (List.sublist_append_left _ _)
        have hy0 := h y hy
        rcases List.mem_append.mp hy with hy | hy
        · have := u3 y hy z (by simp)
          omega
        · obtain rfl := List.mem_singleton.mp hy
          omega
theorem is_set_ok {n : Int} {ts : List (Int × Int)} {ks : List Int} (hs : Set' n ks) (h10 : n ≤ 10) {X : XF} {Q : R → S → Prop} (h : ∀ fin, Q (.d (.bool true)) fin) : m_is_set [.d (webD n ts), .d (.tuple (ks.map .int))] X Q := by
  unfold m_is_set b_is_set
  have few := hs.few h10
  refine st_sem rfl ?_
  array_get_dec
  refine ⟨by rw [List.length_map]; show _ ≤ 16777216; omega, ?_⟩
  array_get_dec
  refine comp_true (fun x hx kT hk => ?_) ?_
  · obtain ⟨z, hz, rfl⟩ := List.mem_map.mp hx
    array_get_dec
    refine is_below_ok fun fin => ?_
    rw [decide_eq_true (hs.lt z hz)]
    array_get_dec
    exact hk
  · array_get_dec
    refine st_all_true ?_
    array_get_dec
    refine is_rising_int_ok hs.up (by omega) fun fin => ?_
    array_get_dec
    exact h _
theorem need_set_ok {n : Int} {ts : List (Int × Int)} {ks : List Int} (hs : Set' n ks) (h10 : n ≤ 10) {X : XF} {Q : R → S → Prop} (h : ∀ fin, Q (.d .none) fin) : m_need_set [.d (webD n ts), .d (.tuple (ks.map .int))] X Q := by
  unfold m_need_set b_need_set
  refine st_sem rfl ?_
  array_get_dec
  refine is_set_ok hs h10 fun fin => ?_
  array_get_dec
  exact h _
/-- min, max of a pair -/
theorem st_minP {a b : Int} {k : R → Prop} (h : k (.d (.int (min a b)))) : bMinL [.tuple [.int a, .int b]] k := by
  show (match intsOf ([a, b].map PyData.int) with
    | some ns => 0 < ns.length ∧ ∀ m, m ∈ ns → (∀ y, y ∈ ns → m ≤ y) → k (.d (.int m))
    | none => False)
  rw [intsOf_map']
  refine ⟨by show 0 < 2; decide, fun m hm hy => ?_⟩
  have h1 := hy a (by simp)
  have h2 := hy b (by simp)
  have h3 : m = a ∨ m = b := by simpa using hm
  rw [show m = min a b by omega]
  exact h
theorem st_maxP {a b : Int} {k : R → Prop} (h : k (.d (.int (max a b)))) : bMaxL [.tuple [.int a, .int b]] k := by
  show (match intsOf ([a, b].map PyData.int) with
    | some ns => 0 < ns.length ∧ ∀ m, m ∈ ns → (∀ y, y ∈ ns → y ≤ m) → k (.d (.int m))
    | none => False)
  rw [intsOf_map']
  refine ⟨by show 0 < 2; decide, fun m hm hy => ?_⟩
  have h1 := hy a (by simp)
  have h2 := hy b (by simp)
  have h3 : m = a ∨ m = b := by simpa using hm
  rw [show m = max a b by omega]
  exact h
local macro_rules
  | `(tactic| sizeOf_list_dec) => `(tactic| first | with_reducible refine st_minP ?_ | with_reducible refine st_maxP ?_)
/-- the program's web_of, of pairs each the lesser one first, each once -/
theorem web_of_ok {n : Int} {ps : List (Int × Int)} (hl : ps.length ≤ 1000) (hlt : ∀ p ∈ ps, p.1 < p.2) (hn : ps.Nodup) {X : XF} {Q : R → S → Prop} (h : ∀ qs fin, Up qs → (∀ p, p ∈ qs ↔ p ∈ ps) → qs.length ≤ 1000 → Q (.d (webD n qs)) fin) : m_web_of [.d (.int n), .d (.list (ps.map pairD))] X Q := by
  unfold m_web_of b_web_of
  refine st_sem rfl ?_
  array_get_dec
  refine ⟨by rw [List.length_map]; show _ ≤ 16777216; omega, ?_⟩
  array_get_dec
  refine comp_list pairD pairD _ (fun p hp kT hkT => ?_) ?_
  · array_get_dec
    have := hlt p hp
    rw [show min p.1 p.2 = p.1 by omega, show max p.1 p.2 = p.2 by omega]
    exact hkT
  · array_get_dec
    refine st_sort_p rfl fun qs hqp hqs => ?_
    array_get_dec
    exact h qs _ (strict_of hqp hn hqs) (fun p => hqp.mem_iff) (by rw [hqp.length_eq]; exact hl)
/-- the same of more pairs, each once -/
theorem web_of_okN {n : Int} {ps : List (Int × Int)} (hl : ps.length ≤ 1000000) (hlt : ∀ p ∈ ps, p.1 < p.2) (hn : ps.Nodup) {X : XF} {Q : R → S → Prop} (h : ∀ qs fin, Up qs → (∀ p, p ∈ qs ↔ p ∈ ps) → Q (.d (webD n qs)) fin) : m_web_of [.d (.int n), .d (.list (ps.map pairD))] X Q := by
  unfold m_web_of b_web_of
  refine st_sem rfl ?_
  array_get_dec
  refine ⟨by rw [List.length_map]; show _ ≤ 16777216; omega, ?_⟩
  array_get_dec
  refine comp_list pairD pairD _ (fun p hp kT hkT => ?_) ?_
  · array_get_dec
    have := hlt p hp
    rw [show min p.1 p.2 = p.1 by omega, show max p.1 p.2 = p.2 by omega]
    exact hkT
  · array_get_dec
    refine st_sort_p rfl fun qs hqp hqs => ?_
    array_get_dec
    exact h qs _ (strict_of hqp hn hqs) (fun p => hqp.mem_iff)
theorem need_two_ok {n m : Int} {ts us : List (Int × Int)} (g : Good n ts) (g2 : Good m us) {X : XF} {Q : R → S → Prop} (h : ∀ fin, Q (.d .none) fin) : m_need_two [.d (webD n ts), .d (webD m us)] X Q := by
  unfold m_need_two b_need_two
  refine st_sem rfl ?_
  array_get_dec
  refine need_web_ok g fun fin => ?_
  array_get_dec
  refine need_web_ok g2 fun fin => ?_
  array_get_dec
  exact h _
theorem moved_ok {b : Int} {ps : List (Int × Int)} (hl : ps.length ≤ 1000) {X : XF} {Q : R → S → Prop} (h : ∀ fin, Q (.own (.l ((ps.map fun p => (p.1 + b, p.2 + b)).map pairD))) fin) : m_moved [.d (.tuple (ps.map pairD)), .d (.int b)] X Q := by
  unfold m_moved b_moved
  refine st_sem rfl ?_
  array_get_dec
  refine ⟨by rw [List.length_map]; show _ ≤ 16777216; omega, ?_⟩
  array_get_dec
  refine comp_list pairD (fun p => pairD (p.1 + b, p.2 + b)) _ (fun p hp kT hkT => ?_) ?_
  · array_get_dec
    exact hkT
  · array_get_dec
    rw [List.map_map] at h
    exact h _
theorem need_room_ok {n : Int} (hn : n ≤ 10) {X : XF} {Q : R → S → Prop} (h : ∀ fin, Q (.d .none) fin) : m_need_room [.d (.int n)] X Q := by
  unfold m_need_room b_need_room
  refine st_sem rfl ?_
  array_get_dec
  exact h _
theorem cut_in_ok {n : Int} {ts : List (Int × Int)} {ks : List Int} (g : Good n ts) (hs : Set' n ks) {X : XF} {Q : R → S → Prop} (h : ∀ qs fin, Whole ks.length (fun i j => (atZ ks i, atZ ks j) ∈ ts) qs → Q (.d (webD ks.length qs)) fin) : m_cut_in [.d (webD n ts), .d (.tuple (ks.map .int))] X Q := by
  unfold m_cut_in b_cut_in
  have h10 := g.n10
  have few := hs.few h10
  have pl := prs_len (rangeI ks.length)
  rw [rangeI_len] at pl
  have pl2 : ks.length * ks.length ≤ 10 * 10 := Nat.mul_le_mul (by omega) (by omega)
  have pu := prs_up (rangeI_up (n := ks.length))
  refine st_sem rfl ?_
  array_get_dec
  rw [List.length_map]
  refine ⟨⟨by omega, by omega, by omega, by omega, by omega⟩, ?_⟩
  rw [rangeD_map, Int.toNat_natCast]
  array_get_dec
  refine pairs_of_ok (by rw [rangeI_len]; omega) fun fin => ?_
  array_get_dec
  rw [List.length_map]
  refine ⟨by rw [List.length_map]; show _ ≤ 16777216; omega, ?_⟩
  array_get_dec
  refine comp_filter pairD pairD (fun p => decide ((atZ ks p.1, atZ ks p.2) ∈ ts)) _ (fun p hp kT kF hT hF => ?_) ?_
  · obtain ⟨p1, p2, p3⟩ := (prs_mem rangeI_up).mp hp
    have p1 := rangeI_mem.mp p1
    have p2 := rangeI_mem.mp p2
    array_get_dec
    refine st_ix_t (atZ_ok p1.1 (by omega)) ?_
    array_get_dec
    refine st_ix_t (atZ_ok p2.1 (by omega)) ?_
    array_get_dec
    refine tied_in_ok fun fin => ?_
    have lt := hs.at_lt p1.1 p3 (by omega)
    rw [show min (atZ ks p.1) (atZ ks p.2) = atZ ks p.1 by omega, show max (atZ ks p.1) (atZ ks p.2) = atZ ks p.2 by omega]
    array_get_dec
    refine st_ite (fun q => ?_) (fun q => ?_)
    · array_get_dec
      exact hT q
    · exact hF q
  · array_get_dec
    have sub := List.filter_sublist (p := fun p : Int × Int => decide ((atZ ks p.1, atZ ks p.2) ∈ ts)) (l := prs (rangeI ks.length))
    have fu : Up ((prs (rangeI ks.length)).filter fun p => decide ((atZ ks p.1, atZ ks p.2) ∈ ts)) := List.Pairwise.sublist sub pu
    refine web_of_okN (by have := sub.length_le; omega) (fun p hp => ((prs_mem rangeI_up).mp (sub.subset hp)).2.2) fu.nodup fun qs fin hu hm => ?_
    array_get_dec
    refine h qs _ (Whole.of (by omega) hu fun p => ?_)
    rw [hm, List.mem_filter, prs_mem rangeI_up, rangeI_mem, rangeI_mem]
    simp only [decide_eq_true_eq]
    constructor
    · rintro ⟨⟨a, b, c⟩, d⟩; exact ⟨a.1, c, by omega, d⟩
    · rintro ⟨a, b, c, d⟩; exact ⟨⟨⟨a, by omega⟩, ⟨by omega, by omega⟩, b⟩, d⟩
theorem cut_down_ok {n : Int} {ts : List (Int × Int)} {ks : List Int} (g : Good n ts) (hs : Set' n ks) {X : XF} {Q : R → S → Prop} (h : ∀ qs fin, Whole ks.length (fun i j => (atZ ks i, atZ ks j) ∈ ts) qs → Q (.d (webD ks.length qs)) fin) : m_cut_down [.d (webD n ts), .d (.tuple (ks.map .int))] X Q := by
  unfold m_cut_down b_cut_down
  refine st_sem rfl ?_
  array_get_dec
  refine need_web_ok g fun fin => ?_
  array_get_dec
  refine need_set_ok hs g.n10 fun fin => ?_
  array_get_dec
  refine cut_in_ok g hs fun qs fin hq => ?_
  array_get_dec
  exact h qs _ hq
def dueF (n : Int) (ts us : List (Int × Int)) (t : Bool) (i j : Int) : Prop := (j < n ∧ (i, j) ∈ ts) ∨ (n ≤ i ∧ (i - n, j - n) ∈ us) ∨ (i < n ∧ n ≤ j ∧ t = true)
/-- both webs' ties, the second one's moved -/
def both (n : Int) (ts us : List (Int × Int)) : List (Int × Int) := ts ++ us.map fun p => (p.1 + n, p.2 + n)
theorem both_mem {n : Int} {ts us : List (Int × Int)} {p : Int × Int} : p ∈ both n ts us ↔ p ∈ ts ∨ (p.1 - n, p.2 - n) ∈ us := by
  unfold both
  rw [List.mem_append, List.mem_map]
  constructor
  · rintro (h | ⟨q, h, rfl⟩)
    · exact .inl h
    · refine .inr ?_
      simp only [Int.add_sub_cancel]
      exact h
  · rintro (h | h)
    · exact .inl h
    · exact .inr ⟨_, h, by ext <;> simp⟩
theorem both_lt {n m : Int} {ts us : List (Int × Int)} (g : Good n ts) (g2 : Good m us) : ∀ p ∈ both n ts us, 0 ≤ p.1 ∧ p.1 < p.2 ∧ p.2 < n + m ∧ (p.2 < n ∨ n ≤ p.1) := by
  intro p hp
  have h0 := g.n0
  have h1 := g2.n0
  rcases both_mem.mp hp with h | h
  · have := g.ties p h; omega
  · have := g2.ties _ h
    simp only at this
    omega
theorem both_nodup {n m : Int} {ts us : List (Int × Int)} (g : Good n ts) (g2 : Good m us) : (both n ts us).Nodup := by
  refine List.nodup_append.mpr ⟨Up.nodup g.up, List.pairwise_map.mpr ((Up.nodup g2.up).imp fun {a b} h e => h ?_), fun a ha b hb e => ?_⟩
  · subst e
    obtain ⟨q, hq, rfl⟩ := List.mem_map.mp hb
    have h1 := g.ties _ ha
    have h2 := g2.ties _ hq
    simp only at h1
    omega
  · have e1 : a.1 + n = b.1 + n := congrArg Prod.fst e
    have e2 : a.2 + n = b.2 + n := congrArg Prod.snd e
    exact Prod.ext (by omega) (by omega)
theorem beside_ok {n m : Int} {ts us : List (Int × Int)} (g : Good n ts) (g2 : Good m us) (h10 : n + m ≤ 10) {X : XF} {Q : R → S → Prop} (h : ∀ qs fin, Whole (n + m) (dueF n ts us false) qs → Q (.d (webD (n + m) qs)) fin) : m_beside [.d (webD n ts), .d (webD m us)] X Q := by
  unfold m_beside b_beside
  have f1 := g.few
  have f2 := g2.few
  refine st_sem rfl ?_
  array_get_dec
  refine need_two_ok g g2 fun fin => ?_
  array_get_dec
  refine need_room_ok h10 fun fin => ?_
  array_get_dec
  refine moved_ok g2.few fun fin => ?_
  array_get_dec
  refine st_add_l (by simp; show _ ≤ 16777216; omega) ?_
  rw [← List.map_append]
  array_get_dec
  have t1 : ts.length ≤ 100 := up_few g.up fun p hp => by have := g.ties p hp; have := g.n10; omega
  have t2 : us.length ≤ 100 := up_few g2.up fun p hp => by have := g2.ties p hp; have := g2.n10; omega
  refine web_of_ok (ps := both n ts us) (by unfold both; simp; omega) (fun p hp => (both_lt g g2 p hp).2.1) (both_nodup g g2) fun qs fin hu hm hl => ?_
  array_get_dec
  refine h qs _ ⟨hu, fun p => ?_, hl⟩
  rw [hm]
  constructor
  · intro hp
    have b := both_lt g g2 p hp
    refine ⟨b.1, b.2.1, b.2.2.1, ?_⟩
    rcases both_mem.mp hp with h | h
    · have := g.ties p h
      exact .inl ⟨this.2.2, h⟩
    · have := g2.ties _ h
      exact .inr (.inl ⟨by simp only at this; omega, h⟩)
  · rintro ⟨-, -, -, h | h | h⟩
    · exact both_mem.mpr (.inl h.2)
    · exact both_mem.mpr (.inr h.2)
    · cases h.2.2
end Lk18
namespace Lk18
open PySem Hs
local macro_rules
  | `(tactic| sizeOf_list_dec) => `(tactic| first
    | with_reducible refine st_seq ?_ | with_reducible refine st_asg ?_ | with_reducible refine st_cons ?_ | with_reducible refine st_nil ?_ | with_reducible refine st_C ?_ | with_reducible refine st_op ?_
    | with_reducible refine st_var_d ?_ | with_reducible refine st_var_l ?_ | with_reducible refine st_var_ll ?_ | with_reducible refine st_var_dc ?_
    | with_reducible refine st_look_d ?_ | with_reducible refine st_look_top ?_ | with_reducible refine st_look_top_d ?_ | with_reducible refine st_look_own ?_ | with_reducible refine st_look_top_dc ?_ | with_reducible refine st_look_own_dc ?_ | with_reducible refine st_put_d ?_ | with_reducible refine st_put_own ?_ | with_reducible refine st_put_top_l ?_ | with_reducible refine st_put_top_ll ?_ | with_reducible refine st_put_top_dc ?_
    | ((with_reducible refine st_callF ?_ ?_); eq_refl) | with_reducible refine st_call ?_ | with_reducible refine st_putK_nil ?_ | with_reducible refine st_putK_t ?_ | with_reducible refine st_putK_f ?_ | with_reducible refine st_putK_td ?_ | with_reducible refine st_putK_to ?_ | with_reducible refine st_bind_nil ?_ | with_reducible refine st_bind_f ?_ | with_reducible refine st_bind_tt ?_ | with_reducible refine st_bind_td ?_ | with_reducible refine st_bind_to ?_
    | with_reducible refine st_frz_d ?_ | with_reducible refine st_frz_own ?_ | with_reducible refine st_frz_top ?_ | with_reducible refine st_frz_own_ll ?_ | with_reducible refine st_frz_own_dc ?_ | with_reducible refine st_frz_top_ll ?_ | with_reducible refine st_frz_top_dc ?_ | with_reducible refine st_frzAll_nil ?_ | with_reducible refine st_frzAll_cons ?_
    | with_reducible refine st_if ?_ | with_reducible refine st_B ?_ | with_reducible refine st_and ?_ | with_reducible refine st_or ?_ | with_reducible refine st_not ?_ | with_reducible refine st_yes ?_ | with_reducible refine st_isB ?_ | with_reducible refine st_t ?_ | with_reducible refine st_f ?_ | ((with_reducible refine st_iteT ?_ ?_); decide) | ((with_reducible refine st_iteF ?_ ?_); decide)
    | with_reducible refine st_nt ?_ | with_reducible refine st_nf ?_
    | with_reducible refine st_ret ?_ | with_reducible refine st_next ?_ | with_reducible refine st_retN ?_ | with_reducible refine st_drop ?_ | with_reducible refine st_break ?_ | with_reducible refine st_raise ?_
    | with_reducible refine st_out_d ?_ | with_reducible refine st_out_own ?_ | with_reducible refine st_out_top ?_
    | with_reducible refine st_tup ?_ | with_reducible refine st_lst ?_ | with_reducible refine st_un ?_ | with_reducible refine st_blt ?_ | with_reducible refine st_lookAll_nil ?_ | with_reducible refine st_lookAll_cons ?_
    | with_reducible refine st_unp ?_ | with_reducible refine st_par ?_ | with_reducible refine st_setIx ?_ | with_reducible refine st_onL ?_ | with_reducible refine st_for ?_ | with_reducible refine st_wipe_nil ?_ | with_reducible refine st_wipe_cons ?_ | with_reducible refine st_andV ?_ | with_reducible refine st_orV ?_ | with_reducible refine st_notV ?_ | with_reducible refine st_ifE ?_ | with_reducible refine st_chain ?_
    | with_reducible refine st_sl ?_ | with_reducible refine st_noPart ?_ | with_reducible refine st_part ?_ | with_reducible refine st_lc ?_ | with_reducible refine st_lm ?_
    | with_reducible refine st_seqI ?_ | with_reducible refine st_range1 ?_ | with_reducible refine st_range2 ?_ | with_reducible refine st_enum ?_ | with_reducible refine st_zip ?_
    | with_reducible refine st_nm ?_ | with_reducible refine st_tp ?_ | with_reducible refine st_tps_nil ?_ | with_reducible refine st_tps_cons ?_
    | ((with_reducible refine st_mod_i ?_ ?_); (first | decide | omega)) | ((with_reducible refine st_fdiv_i ?_ ?_); decide) 
    | with_reducible refine st_add_i ?_ | with_reducible refine st_sub_i ?_ | with_reducible refine st_neg_i ?_ | with_reducible refine st_eq_i ?_ | with_reducible refine st_ne_i ?_ | with_reducible refine st_eq_str ?_ | with_reducible refine st_ne_str ?_ | with_reducible refine st_eq_b ?_ | with_reducible refine st_ne_b ?_ | with_reducible refine st_lt_i ?_ | with_reducible refine st_le_i ?_ | with_reducible refine st_gt_i ?_ | with_reducible refine st_ge_i ?_
    | with_reducible refine st_is_n ?_ | with_reducible refine st_isNot_n ?_ | with_reducible refine st_is_b ?_ | with_reducible refine st_isNot_b ?_ | ((with_reducible refine st_ix_l (x := ?_) ?_ ?_); rotate_left; eq_refl) | ((with_reducible refine st_ix_t (x := ?_) ?_ ?_); rotate_left; eq_refl) | with_reducible refine st_len_l ?_ | with_reducible refine st_len_t ?_ | with_reducible refine st_len_lit ?_
    | with_reducible refine st_abs ?_ | with_reducible refine st_max2 ?_ | with_reducible refine st_min2 ?_ | with_reducible refine st_int_i ?_ | with_reducible refine st_int_b ?_ | with_reducible refine st_tuple_l ?_ | with_reducible refine st_tuple_t ?_ | with_reducible refine st_list_l ?_ | with_reducible refine st_list_t ?_ | ((with_reducible refine st_isT ?_ ?_); eq_refl) | ((with_reducible refine st_isTT ?_ ?_); eq_refl) | ((with_reducible refine st_isTF ?_ ?_); eq_refl) | ((with_reducible refine st_isNT ?_ ?_); eq_refl) | ((with_reducible refine st_isNF ?_ ?_); eq_refl)
    | with_reducible refine st_rg1 ?_ | with_reducible refine st_rg2 ?_ | with_reducible refine st_enumL ?_ | with_reducible refine st_zipS ?_ | with_reducible refine st_rev_l ?_ | with_reducible refine st_rev_t ?_
    | with_reducible refine st_ne_ll ?_ | with_reducible refine st_ne_lit ?_ | with_reducible refine st_in_pt ?_ | with_reducible refine st_in_pl ?_
    | with_reducible refine st_sl_l ?_ | with_reducible refine st_sl_t ?_
    | ((with_reducible refine st_iteLen ?_ ?_); eq_refl) | ((with_reducible refine st_iteNLen ?_ ?_); eq_refl) | with_reducible refine st_iteBB ?_ | ((with_reducible refine st_iteND ?_ ?_); omega) | ((with_reducible refine st_iteNF ?_ ?_); omega)
    | ((with_reducible refine st_iteT (decide_eq_true ?_) ?_); omega) | ((with_reducible refine st_iteF (decide_eq_false ?_) ?_); omega))
local macro_rules
  | `(tactic| sizeOf_list_dec) => `(tactic| with_reducible refine stepTo ?_)
local macro_rules
  | `(tactic| array_get_dec) => `(tactic| repeat sizeOf_list_dec)
local macro_rules
  | `(tactic| sizeOf_list_dec) => `(tactic| first | with_reducible refine st_ix2_l ?_ | with_reducible refine st_ix2_t ?_ | with_reducible refine st_ix2_s ?_ | with_reducible refine st_ix2_lit ?_ | with_reducible refine st_inK_l ?_ | with_reducible refine st_inK_t ?_ | with_reducible refine st_ninK_l ?_ | with_reducible refine st_ninK_t ?_ | with_reducible refine st_setD ?_ | with_reducible refine st_onDc ?_ | with_reducible refine st_dget2 ?_ | with_reducible refine st_emT ?_ | with_reducible refine st_emD ?_ | with_reducible refine st_disp1 ?_ | with_reducible refine st_disp1k ?_ | with_reducible refine st_range3 ?_ | with_reducible refine st_bor ?_ | with_reducible refine st_borT ?_ | with_reducible refine st_bindT_nil ?_ | with_reducible refine st_bindT_d ?_ | with_reducible refine st_bindT_o ?_ | with_reducible refine st_bindT_t ?_ | with_reducible refine st_toPs_nil ?_ | with_reducible refine st_toPs_d ?_ | with_reducible refine st_toPs_l ?_ | with_reducible refine st_toPs_dc ?_ | with_reducible refine st_tupO ?_ | with_reducible refine st_var_tp ?_ | with_reducible refine st_frz_own_tp ?_ | with_reducible refine st_frz_top_tp ?_ | with_reducible refine st_lmP ?_ | ((with_reducible refine st_onP ?_ ?_); eq_refl) | with_reducible refine st_flat_b ?_ | with_reducible refine st_flat_i ?_)
local macro_rules
  | `(tactic| sizeOf_list_dec) => `(tactic| first | with_reducible refine st_lenT_f ?_ | with_reducible refine st_lenT ?_ | with_reducible refine st_ixDT_t ?_ | with_reducible refine st_ixDT_l ?_ | with_reducible refine st_inT_f ?_ | with_reducible refine st_inT2 ?_ | with_reducible refine st_isT_f ?_ | with_reducible refine st_isT2 ?_ | with_reducible refine st_seqT ?_ | with_reducible refine st_seqT_l ?_ | with_reducible refine st_seqT_t ?_ | with_reducible refine st_seqT_f ?_ | with_reducible refine st_tix ?_)
local macro_rules
  | `(tactic| sizeOf_list_dec) => `(tactic| with_reducible refine is_whole_ok fun _ => ?_)
local macro_rules
  | `(tactic| sizeOf_list_dec) => `(tactic| first | with_reducible refine st_in_il ?_ | with_reducible refine st_in_it ?_ | with_reducible refine st_notIn_il ?_ | with_reducible refine st_notIn_it ?_ | with_reducible refine st_ne_ll ?_)
local macro_rules
  | `(tactic| sizeOf_list_dec) => `(tactic| first | with_reducible refine st_lcK ?_ | with_reducible refine st_rowOf ?_)
theorem nodup_le : ∀ {l m : List Int}, l.Nodup → (∀ z ∈ l, z ∈ m) → l.length ≤ m.length
  | [], _, _, _ => Nat.zero_le _
  | a :: l, m, hn, hs => by
    obtain ⟨h1, h2⟩ := List.nodup_cons.mp hn
    have h3 := hs a List.mem_cons_self
    have h4 := nodup_le (m := m.erase a) h2 fun z hz => (List.mem_erase_of_ne (fun e => h1 (by rw [← e]; exact hz))).mpr (hs z (List.mem_cons_of_mem _ hz))
    rw [List.length_erase_of_mem h3] at h4
    have := List.length_pos_of_mem h3
    rw [List.length_cons]
    omega
theorem tb_iff {ts : List (Int × Int)} {a b : Int} (h : a < b) : Tb ts a b = true ↔ (a, b) ∈ ts := by
  unfold Tb
  rw [show min a b = a by omega, show max a b = b by omega, decide_eq_true_eq]
theorem sub_split {α : Type} {p : α} {T : List α} : ∀ {lf : List α}, (p :: T).Sublist lf → ∃ pre suf, lf = pre ++ p :: suf ∧ T.Sublist suf
  | [], h => nomatch h
  | a :: lf, h => by
    rcases List.sublist_cons_iff.mp h with h | ⟨r, e, h⟩
    · obtain ⟨pre, suf, e, hs⟩ := sub_split h
      exact ⟨a :: pre, suf, by rw [e]; rfl, hs⟩
    · obtain ⟨rfl, rfl⟩ := List.cons.inj e
      exact ⟨[], lf, rfl, h⟩
theorem ff_step {g : Int → Int → Bool} {n : Nat} {ch lf sh : List Int} (he : ¬ (lf = [] ∧ sh = [])) {S : List Int} : S ∈ ff g (n + 1) ch lf sh ↔ ∃ pre p suf, lf = pre ++ p :: suf ∧ S ∈ ff g n (ch ++ [p]) (suf.filter (g p)) ((sh ++ pre).filter (g p)) := by
  have unf : ff g (n + 1) ch lf sh = (List.range lf.length).flatMap fun (i : Nat) => ff g n (ch ++ [atZ lf i]) ((lf.drop (i + 1)).filter (g (atZ lf i))) ((sh ++ lf.take i).filter (g (atZ lf i))) := by
    show (if lf = [] ∧ sh = [] then _ else _) = _
    rw [if_neg he]
  rw [unf, List.mem_flatMap]
  constructor
  · rintro ⟨i, hi, h⟩
    have hi := List.mem_range.mp hi
    refine ⟨lf.take i, atZ lf i, lf.drop (i + 1), ?_, h⟩
    have e : lf.drop i = atZ lf i :: lf.drop (i + 1) := by
      rw [List.drop_eq_getElem_cons hi]
      simp [atZ, List.getD_eq_getElem?_getD, hi]
    rw [← e, List.take_append_drop]
  · rintro ⟨pre, p, suf, e, h⟩
    have hl : pre.length < lf.length := by rw [e]; simp
    have eat : atZ lf (pre.length : Nat) = p := by
      unfold atZ
      rw [e, Int.toNat_natCast, List.getD_eq_getElem?_getD, List.getElem?_append_right (Nat.le_refl _), Nat.sub_self]
      rfl
    have edr : lf.drop (pre.length + 1) = suf := by
      rw [e, List.drop_append, List.drop_eq_nil_of_le (by omega)]
      simp
    have etk : lf.take pre.length = pre := by
      rw [e, List.take_append, List.take_of_length_le (Nat.le_refl _)]
      simp
    refine ⟨pre.length, List.mem_range.mpr hl, ?_⟩
    rw [eat, edr, etk]
    exact h
theorem ff_mem {g : Int → Int → Bool} : ∀ (n : Nat) (ch lf sh : List Int), lf.length < n → (lf ++ sh).Nodup → ∀ S, S ∈ ff g n ch lf sh ↔ ∃ T, S = ch ++ T ∧ T.Sublist lf ∧ Clq g T ∧ ∀ z ∈ lf ++ sh, z ∉ T → ∃ u ∈ T, g u z = false
  | 0, _, _, _, h, _, _ => by omega
  | n + 1, ch, lf, sh, hn, nd, S => by
    by_cases he : lf = [] ∧ sh = []
    · obtain ⟨rfl, rfl⟩ := he
      unfold ff
      rw [if_pos ⟨rfl, rfl⟩, List.mem_singleton]
      constructor
      · rintro rfl
        exact ⟨[], by simp, List.nil_sublist _, .nil, fun z hz => nomatch hz⟩
      · rintro ⟨T, rfl, h, _⟩
        rw [List.sublist_nil.mp h, List.append_nil]
    rw [ff_step he]
    have ih : ∀ pre p suf, lf = pre ++ p :: suf → (S ∈ ff g n (ch ++ [p]) (suf.filter (g p)) ((sh ++ pre).filter (g p)) ↔ ∃ T, S = ch ++ [p] ++ T ∧ T.Sublist (suf.filter (g p)) ∧ Clq g T ∧ ∀ z ∈ suf.filter (g p) ++ (sh ++ pre).filter (g p), z ∉ T → ∃ u ∈ T, g u z = false) := fun pre p suf e => by
      refine ff_mem n _ _ _ ?_ ?_ S
      · have := List.length_filter_le (g p) suf
        rw [e, List.length_append, List.length_cons] at hn
        omega
      · rw [← List.filter_append]
        refine List.Pairwise.filter _ ?_
        show List.Nodup _
        rw [e] at nd
        have s : (suf ++ (sh ++ pre)).Perm (pre ++ suf ++ sh) := by
          rw [← List.append_assoc]
          refine List.perm_append_comm.trans ?_
          rw [← List.append_assoc]
        refine s.nodup_iff.mpr ?_
        refine nd.sublist ?_
        exact List.Sublist.append (List.Sublist.append (List.Sublist.refl _) (List.sublist_cons_self _ _)) (List.Sublist.refl _)
    constructor
    · rintro ⟨pre, p, suf, e, h⟩
      obtain ⟨T, rfl, h1, h2, h3⟩ := (ih pre p suf e).mp h
      refine ⟨p :: T, by simp, ?_, List.pairwise_cons.mpr ⟨fun b hb => (List.mem_filter.mp (h1.subset hb)).2, h2⟩, fun z hz hzT => ?_⟩
      · rw [e]
        exact (List.Sublist.cons_cons _ (h1.trans List.filter_sublist)).trans (List.sublist_append_right _ _)
      · cases gz : g p z with
        | false => exact ⟨p, List.mem_cons_self, gz⟩
        | true =>
          have zp : z ≠ p := fun e => hzT (by rw [e]; exact List.mem_cons_self)
          have zT : z ∉ T := fun h => hzT (List.mem_cons_of_mem _ h)
          obtain ⟨u, hu, hg⟩ := h3 z (by
            rw [← List.filter_append]
            refine List.mem_filter.mpr ⟨?_, gz⟩
            rw [e] at hz
            simp only [List.mem_append, List.mem_cons] at hz ⊢
            rcases hz with (hz | hz | hz) | hz
            · exact .inr (.inr hz)
            · exact (zp hz).elim
            · exact .inl hz
            · exact .inr (.inl hz)) zT
          exact ⟨u, List.mem_cons_of_mem _ hu, hg⟩
    · rintro ⟨T, rfl, h1, h2, h3⟩
      cases T with
      | nil =>
        refine (he ?_).elim
        have no : ∀ z, z ∉ lf ++ sh := fun z hz => by
          obtain ⟨u, hu, _⟩ := h3 z hz (by simp)
          cases hu
        have := List.eq_nil_iff_forall_not_mem.mpr no
        exact List.append_eq_nil_iff.mp this
      | cons p T =>
        obtain ⟨pre, suf, e, hs⟩ := sub_split h1
        obtain ⟨c1, c2⟩ := List.pairwise_cons.mp h2
        refine ⟨pre, p, suf, e, (ih pre p suf e).mpr ⟨T, by simp, ?_, c2, fun z hz hzT => ?_⟩⟩
        · have := hs.filter (g p)
          rw [List.filter_eq_self.mpr c1] at this
          exact this
        · rw [← List.filter_append] at hz
          obtain ⟨m1, m2⟩ := List.mem_filter.mp hz
          have zp : z ≠ p := by
            intro ez
            subst ez
            rw [e] at nd
            obtain ⟨n1, n2, n3⟩ := List.nodup_append.mp nd
            obtain ⟨k1, k2, k3⟩ := List.nodup_append.mp n1
            simp only [List.mem_append] at m1
            rcases m1 with m1 | m1 | m1
            · exact (List.nodup_cons.mp k2).1 m1
            · exact n3 z (by simp) z m1 rfl
            · exact k3 z m1 z (by simp) rfl
          obtain ⟨u, hu, hg⟩ := h3 z (by
            rw [e]
            simp only [List.mem_append, List.mem_cons] at m1 ⊢
            rcases m1 with m1 | m1 | m1
            · exact .inl (.inr (.inr m1))
            · exact .inr m1
            · exact .inl (.inl m1)) (by
            intro hz
            rcases List.mem_cons.mp hz with hz | hz
            · exact zp hz
            · exact hzT hz)
          rcases List.mem_cons.mp hu with rfl | hu
          · rw [m2] at hg; cases hg
          · exact ⟨u, hu, hg⟩
/-- a full set -/
structure Full (w : Bool) (n : Int) (ts : List (Int × Int)) (S : List Int) : Prop where
  up : S.Pairwise (· < ·)
  lt : ∀ z ∈ S, 0 ≤ z ∧ z < n
  tie : ∀ a ∈ S, ∀ b ∈ S, a ≠ b → Tb ts a b = w
  max : ∀ z, 0 ≤ z → z < n → z ∉ S → ∃ u ∈ S, Tb ts u z ≠ w
theorem clq_two' {g : Int → Int → Bool} (hs : ∀ a b, g a b = g b a) {a b : Int} : ∀ {T : List Int}, Clq g T → a ∈ T → b ∈ T → a ≠ b → g a b = true
  | [], _, ha, _, _ => nomatch ha
  | c :: T, h, ha, hb, ne => by
    obtain ⟨h1, h2⟩ := List.pairwise_cons.mp h
    rcases List.mem_cons.mp ha with e | ha
    · rcases List.mem_cons.mp hb with e2 | hb
      · exact (ne (by rw [e, e2])).elim
      · rw [e]; exact h1 b hb
    · rcases List.mem_cons.mp hb with e2 | hb
      · rw [hs, e2]; exact h1 a ha
      · exact clq_two' hs h2 ha hb ne
theorem fulls_mem {w : Bool} {n : Int} {ts : List (Int × Int)} (h0 : 0 ≤ n) (h10 : n ≤ 10) {S : List Int} : S ∈ fulls w n ts ↔ Full w n ts S := by
  unfold fulls
  rw [ff_mem (g := fun a b => Tb ts a b == w) 16 [] (rangeI n.toNat) [] (by rw [rangeI_len]; omega) (by rw [List.append_nil]; exact rangeI_nd)]
  have hs : ∀ a b : Int, (Tb ts a b == w) = (Tb ts b a == w) := fun a b => by rw [Tb_symm]
  constructor
  · rintro ⟨T, rfl, h1, h2, h3⟩
    refine ⟨rangeI_up.sublist h1, fun z hz => ?_, fun a ha b hb hab => by simpa using clq_two' (g := fun a b => Tb ts a b == w) hs h2 ha hb hab, fun z z0 z1 hz => ?_⟩
    · have := rangeI_mem.mp (h1.subset hz)
      omega
    · obtain ⟨u, hu, hg⟩ := h3 z (by rw [List.append_nil]; exact rangeI_mem.mpr ⟨z0, by omega⟩) hz
      exact ⟨u, hu, by simpa using hg⟩
  · intro f
    refine ⟨S, rfl, rising_sub _ _ f.up fun z hz => by have := f.lt z hz; omega, List.Pairwise.imp_of_mem (fun {a b} ha hb hab => by simpa using f.tie a ha b hb (by omega)) f.up, fun z hz hzS => ?_⟩
    rw [List.append_nil] at hz
    have := rangeI_mem.mp hz
    obtain ⟨u, hu, hg⟩ := f.max z this.1 (by omega) hzS
    exact ⟨u, hu, by simpa using hg⟩
theorem lt_eq : ∀ {ps qs : List Int}, ps.Pairwise (· < ·) → qs.Pairwise (· < ·) → (∀ p, p ∈ ps ↔ p ∈ qs) → ps = qs
  | [], [], _, _, _ => rfl
  | [], q :: qs, _, _, h => nomatch (h q).mpr List.mem_cons_self
  | p :: ps, [], _, _, h => nomatch (h p).mp List.mem_cons_self
  | p :: ps, q :: qs, h1, h2, h => by
    obtain ⟨a1, a2⟩ := List.pairwise_cons.mp h1
    obtain ⟨b1, b2⟩ := List.pairwise_cons.mp h2
    have e : p = q := by
      rcases List.mem_cons.mp ((h p).mp List.mem_cons_self) with e | hp
      · exact e
      · rcases List.mem_cons.mp ((h q).mpr List.mem_cons_self) with e | hq
        · exact e.symm
        · have c1 := b1 p hp
          have c2 := a1 q hq
          omega
    subst e
    rw [lt_eq a2 b2 fun r => ?_]
    constructor
    · intro hr
      rcases List.mem_cons.mp ((h r).mp (List.mem_cons_of_mem _ hr)) with e | hr2
      · subst e
        have := a1 r hr; omega
      · exact hr2
    · intro hr
      rcases List.mem_cons.mp ((h r).mpr (List.mem_cons_of_mem _ hr)) with e | hr2
      · subst e
        have := b1 r hr; omega
      · exact hr2
theorem range_nd {n : Nat} : (rangeI n).Nodup := rangeI_up.imp fun {a b} h => by omega
def Tied (ts : List (Int × Int)) (ls : List Int) : Prop := ls.Pairwise fun a b => Tb ts a b = true
theorem Tied.perm {ts : List (Int × Int)} {ls ms : List Int} (h : ls.Perm ms) : Tied ts ls ↔ Tied ts ms := h.pairwise_iff fun {a b} hab => by rw [Tb_symm]; exact hab
theorem behind_in_ok {n : Int} {ts : List (Int × Int)} {ks : List Int} {i : Nat} (hl : ks.length ≤ 100) (hi : i < ks.length) {X : XF} {Q : R → S → Prop} (h : ∀ (ms : List Int) fin, ms.Perm ((ks.drop (i + 1)).filter (Tb ts (atZ ks i))) → Q (.d (.tuple (ms.map .int))) fin) : m_behind_in [.d (webD n ts), .d (.tuple (ks.map .int)), .d (.int i)] X Q := by
  unfold m_behind_in b_behind_in
  refine st_sem rfl ?_
  array_get_dec
  rw [show (i : Int) + 1 = ((i + 1 : Nat) : Int) by omega, cut_from]
  refine ⟨by rw [List.length_map, List.length_drop]; show _ ≤ 16777216; omega, ?_⟩
  array_get_dec
  refine comp_filter PyData.int PyData.int (Tb ts (atZ ks i)) _ (fun z hz kT kF hT hF => ?_) ?_
  · array_get_dec
    refine st_ix_t (atZ_ok (by omega) (by omega)) ?_
    array_get_dec
    refine tied_in_ok fun fin => ?_
    array_get_dec
    refine st_ite (fun q => ?_) (fun q => ?_)
    · array_get_dec
      exact hT q
    · exact hF q
  · array_get_dec
    refine st_sort_i rfl fun ms hp hs => ?_
    array_get_dec
    exact h ms _ hp
theorem sorted_range {ks ms : List Int} {n : Nat} (hp : ms.Perm ks) (hs : ms.Pairwise (· ≤ ·)) : decide (ms = rangeI n) = dec (ks.Perm (rangeI n)) := by
  by_cases h : ks.Perm (rangeI n)
  · rw [dec_t h]
    have hp2 := hp.trans h
    have nd : ms.Nodup := hp2.nodup_iff.mpr rangeI_nd
    have st : ms.Pairwise (· < ·) := (List.Pairwise.and hs nd).imp fun {a b} h => by
      have h1 := h.1
      have h2 : a ≠ b := h.2
      omega
    exact decide_eq_true (lt_eq st rangeI_up fun p => hp2.mem_iff)
  · rw [dec_f h]
    exact decide_eq_false fun e => h (by rw [← e]; exact hp.symm)
theorem st_sort_it {ns : List Int} {k : R → Prop} (h : ∀ ms : List Int, ms.Perm ns → ms.Pairwise (· ≤ ·) → k (.own (.l (ms.map .int)))) : bSorted [.tuple (ns.map .int)] k := by
  show (match intsOf (ns.map PyData.int) with
    | some ns => ∀ ms : List Int, ms.Perm ns → ms.Pairwise (· ≤ ·) → k (.own (.l (ms.map .int)))
    | none => bSortPT [.tuple (ns.map .int)] k)
  rw [intsOf_map']
  exact h
abbrev RD (n : Int) (ts : List (Int × Int)) : D := .list ((mat n.toNat (Tb ts)).map PyData.list)
def In' (n : Int) (ks : List Int) : Prop := (∀ z ∈ ks, 0 ≤ z ∧ z < n) ∧ ks.length ≤ 20
theorem In'.sub {n : Int} {ks ls : List Int} (h : In' n ks) (s : ls.Sublist ks) : In' n ls := ⟨fun z hz => h.1 z (s.subset hz), Nat.le_trans s.length_le h.2⟩
theorem rd_at {n p : Int} {ts : List (Int × Int)} (hp : 0 ≤ p ∧ p < n) : L2.atI ((mat n.toNat (Tb ts)).map PyData.list) p = some (.list ((rangeI n.toNat).map fun j => PyData.bool (Tb ts p j))) := row_at hp.1 (by omega)
theorem nears_among_ok {n p : Int} {ts : List (Int × Int)} {ks : List Int} (hk : In' n ks) (hp : 0 ≤ p ∧ p < n) {X : XF} {Q : R → S → Prop} (h : ∀ fin, Q (.own (.l ((ks.filter (Tb ts p)).map .int))) fin) : m_nears_among [.d (RD n ts), .d (.list (ks.map .int)), .d (.int p)] X Q := by
  unfold m_nears_among b_nears_among
  have hl := hk.2
  refine st_sem rfl ?_
  array_get_dec
  refine ⟨by rw [List.length_map]; show _ ≤ 16777216; omega, ?_⟩
  array_get_dec
  refine comp_filter PyData.int PyData.int (Tb ts p) _ (fun z hz kT kF hT hF => ?_) ?_
  · have hz := hk.1 z hz
    array_get_dec
    refine st_ix_l (rd_at hp) ?_
    array_get_dec
    refine st_ix_l (cell_at hz.1 (by omega)) ?_
    array_get_dec
    refine st_ite (fun q => ?_) (fun q => ?_)
    · array_get_dec
      exact hT q
    · exact hF q
  · array_get_dec
    exact h _
theorem all_tied_ok {n : Int} {ts : List (Int × Int)} {ks : List Int} (hk : In' n ks) {X : XF} {Q : R → S → Prop} (h : ∀ fin, Q (.d (.bool (dec (Tied ts ks)))) fin) : m_all_tied [.d (RD n ts), .d (.list (ks.map .int))] X Q := by
  unfold m_all_tied b_all_tied
  have hl := hk.2
  refine st_sem rfl ?_
  array_get_dec
  rw [enum_ints']
  refine loop_nat (fun i s => s = [.d (RD n ts), .d (.list (ks.map .int)), .no, .no, .no] ∧ ∀ (a b : Nat), a < i → a < b → b < ks.length → Tb ts (atZ ks a) (atZ ks b) = true) ?_ ?_ ⟨rfl, fun a b h => by omega⟩
  · rintro s ⟨rfl, ha⟩
    array_get_dec
    have : Tied ts ks := by
      refine List.pairwise_iff_getElem.mpr fun i j hi hj hij => ?_
      have q := ha i j hi hij hj
      simpa [atZ, List.getD_eq_getElem?_getD, List.getElem?_eq_getElem hi, List.getElem?_eq_getElem hj] using q
    rw [dec_t this] at h
    exact h _
  · rintro i s k hi ⟨rfl, ha⟩ hk2
    have hai := hk.1 _ (atZ_in hi)
    array_get_dec
    rw [show (i : Int) + 1 = ((i + 1 : Nat) : Int) by omega, cut_from]
    refine ⟨by rw [List.length_map, List.length_drop]; show _ ≤ 16777216; omega, ?_⟩
    array_get_dec
    refine comp_list PyData.int (fun z => .bool (Tb ts (atZ ks i) z)) _ (fun z hz kT hkT => ?_) ?_
    · have hz := hk.1 z (List.mem_of_mem_drop hz)
      array_get_dec
      refine st_ix_l (rd_at hai) ?_
      array_get_dec
      refine st_ix_l (cell_at hz.1 (by omega)) ?_
      array_get_dec
      exact hkT
    · array_get_dec
      refine st_all_map ?_
      array_get_dec
      refine st_ite (fun q => ?_) (fun q => ?_)
      · array_get_dec
        rw [dec_f (fun hr : Tied ts ks => ?_)] at h
        · exact h _
        · have q : (ks.drop (i + 1)).all (fun z => Tb ts (atZ ks i) z) = false := by simpa using q
          rw [List.all_eq_false] at q
          obtain ⟨z, hz, hn⟩ := q
          obtain ⟨j, hj, e⟩ := List.mem_iff_getElem.mp hz
          rw [List.getElem_drop] at e
          rw [List.length_drop] at hj
          have := List.pairwise_iff_getElem.mp hr i (i + 1 + j) hi (by omega) (by omega)
          rw [e] at this
          refine hn ?_
          simpa [atZ, List.getD_eq_getElem?_getD, List.getElem?_eq_getElem hi] using this
      · array_get_dec
        refine hk2 _ ⟨rfl, fun a b h1 h2 h3 => ?_⟩
        by_cases e : a = i
        · subst e
          have q : (ks.drop (a + 1)).all (fun z => Tb ts (atZ ks a) z) = true := by simpa using q
          refine List.all_eq_true.mp q _ (List.mem_iff_getElem.mpr ⟨b - (a + 1), by rw [List.length_drop]; omega, ?_⟩)
          rw [List.getElem_drop]
          simp [atZ, List.getD_eq_getElem?_getD, show a + 1 + (b - (a + 1)) = b by omega, List.getElem?_eq_getElem h3]
        · exact ha a b (by omega) h2 h3
/-- a place may be taken out -/
def Simp (ts : List (Int × Int)) (L : List Int) (p : Int) : Prop := Tied ts (L.filter (Tb ts p))
def mayI (o : Option Int) : D := match o with
  | some z => .int z
  | none => .none
theorem foldable_ok {n : Int} {ts : List (Int × Int)} {ks : List Int} (hk : In' n ks) {X : XF} {Q : R → S → Prop} (h : ∀ fin, Q (.d (mayI (ks.find? fun p => dec (Simp ts ks p)))) fin) : m_foldable [.d (RD n ts), .d (.list (ks.map .int))] X Q := by
  unfold m_foldable b_foldable
  refine st_sem rfl ?_
  array_get_dec
  refine loop_list PyData.int (fun l s => s = [.d (RD n ts), .d (.list (ks.map .int)), .no] ∧ (ks.find? fun p => dec (Simp ts ks p)) = (l.find? fun p => dec (Simp ts ks p)) ∧ ∀ z ∈ l, z ∈ ks) ?_ ?_ _ _ ⟨rfl, rfl, fun z hz => hz⟩
  · rintro s ⟨rfl, e, _⟩
    array_get_dec
    rw [e] at h
    exact h _
  · rintro z l s k ⟨rfl, e, hz⟩ hk2
    have hzk := hz z List.mem_cons_self
    array_get_dec
    refine nears_among_ok hk (hk.1 z hzk) fun fin => ?_
    array_get_dec
    refine all_tied_ok (hk.sub List.filter_sublist) fun fin => ?_
    array_get_dec
    rw [List.find?_cons] at e
    refine st_ite (fun q => ?_) (fun q => ?_)
    · array_get_dec
      rw [show dec (Simp ts ks z) = true from q] at e
      rw [e] at h
      exact h _
    · array_get_dec
      rw [show dec (Simp ts ks z) = false from q] at e
      exact hk2 _ ⟨rfl, e, fun y hy => hz y (List.mem_cons_of_mem _ hy)⟩
def out (L : List Int) (p : Int) : List Int := L.filter fun z => !decide (z = p)
inductive Steps (ts : List (Int × Int)) : List Int → List Int → List Int → Prop
  | nil {L : List Int} : Steps ts L [] L
  | cons {L M : List Int} {p : Int} {o : List Int} : p ∈ L → Simp ts L p → Steps ts (out L p) o M → Steps ts L (p :: o) M
theorem Steps.snoc {ts : List (Int × Int)} : ∀ {L M : List Int} {o : List Int} {p : Int}, Steps ts L o M → p ∈ M → Simp ts M p → Steps ts L (o ++ [p]) (out M p)
  | _, _, _, _, .nil, hp, hs => .cons hp hs .nil
  | _, _, _, _, .cons h1 h2 r, hp, hs => .cons h1 h2 (r.snoc hp hs)
theorem out_sub {L : List Int} {p : Int} : (out L p).Sublist L := List.filter_sublist
theorem out_mem {L : List Int} {p z : Int} : z ∈ out L p ↔ z ∈ L ∧ z ≠ p := by unfold out; rw [List.mem_filter]; simp
theorem out_len {L : List Int} {p : Int} (h : p ∈ L) : (out L p).length < L.length := by
  unfold out
  refine Nat.lt_of_le_of_ne (List.length_filter_le _ _) fun e => ?_
  have := List.length_filter_eq_length_iff.mp e p h
  simp at this
theorem Steps.sub {ts : List (Int × Int)} : ∀ {L M : List Int} {o : List Int}, Steps ts L o M → M.Sublist L
  | _, _, _, .nil => List.Sublist.refl _
  | _, _, _, .cons _ _ r => r.sub.trans out_sub
theorem Steps.len {ts : List (Int × Int)} : ∀ {L M : List Int} {o : List Int}, Steps ts L o M → o.length + M.length ≤ L.length
  | _, _, _, .nil => by simp
  | _, _, _, .cons h1 _ r => by
    have := r.len
    have := out_len h1
    simp only [List.length_cons]
    omega
/-- none of those left may be taken out -/
def Stuck (ts : List (Int × Int)) (M : List Int) : Prop := ∀ p ∈ M, ¬ Simp ts M p
theorem find_simp {ts : List (Int × Int)} {M L : List Int} {z : Int} (h : (M.find? fun p => dec (Simp ts L p)) = some z) : z ∈ M ∧ Simp ts L z := ⟨List.mem_of_find?_eq_some h, of_dec (List.find?_some (p := fun p => dec (Simp ts L p)) h)⟩
where
  of_dec {P : Prop} (h : dec P = true) : P := Classical.byContradiction fun hn => by rw [dec_f hn] at h; cases h
theorem find_stuck {ts : List (Int × Int)} {M : List Int} (h : (M.find? fun p => dec (Simp ts M p)) = none) : Stuck ts M := fun p hp hs => by
  have := List.find?_eq_none.mp h p hp
  exact this (dec_t hs)
theorem folded_ok {n : Int} {ts : List (Int × Int)} {ks : List Int} (hk : In' n ks) {X : XF} {Q : R → S → Prop} (h : ∀ o M fin, Steps ts ks o M → Stuck ts M → Q (.d (.tuple [.list (o.map .int), .list (M.map .int)])) fin) : m_folded [.d (RD n ts), .d (.list (ks.map .int))] X Q := by
  unfold m_folded b_folded
  refine st_sem rfl ?_
  array_get_dec
  refine foldable_ok hk fun fin => ?_
  array_get_dec
  refine loop_while (fun m s => ∃ o M, Steps ts ks o M ∧ M.length = m ∧ s = [.d (RD n ts), .d (.list (M.map .int)), .l (o.map .int), .d (mayI (M.find? fun p => dec (Simp ts M p))), .no]) (fun m s k ⟨o, M, hst, hm, e⟩ hk2 => ?_) ks.length ⟨[], ks, .nil, rfl, rfl⟩
  subst e
  have hM := hk.sub hst.sub
  have hol := hst.len
  have hkl := hk.2
  array_get_dec
  cases e : M.find? fun p => dec (Simp ts M p) with
  | none =>
    rw [show mayI none = .none from rfl]
    array_get_dec
    exact h _ _ _ hst (find_stuck e)
  | some z =>
    obtain ⟨z1, z2⟩ := find_simp e
    rw [show mayI (some z) = .int z from rfl]
    array_get_dec
    refine st_iteT rfl ?_
    array_get_dec
    refine st_append ?_ ?_
    · rw [List.length_map]; show _ < 16777216; omega
    array_get_dec
    refine ⟨by rw [List.length_map]; show _ ≤ 16777216; have := hM.2; omega, ?_⟩
    array_get_dec
    refine comp_filter PyData.int PyData.int (fun y => !decide (y = z)) _ (fun y hy kT kF hT hF => ?_) ?_
    · array_get_dec
      refine st_ite (fun q => ?_) (fun q => ?_)
      · array_get_dec
        exact hT q
      · exact hF q
    · array_get_dec
      refine foldable_ok (hM.sub out_sub) fun fin => ?_
      array_get_dec
      refine hk2 (out M z).length _ (by rw [← hm]; exact out_len z1) ⟨o ++ [z], out M z, hst.snoc z1 z2, rfl, ?_⟩
      rw [List.map_append]
      rfl
structure BW (ts : List (Int × Int)) (U level : List Int) (f : Int) (K : Nat) (A : Int → Option D) (d : Int → Nat) (fol : List Int) : Prop where
  root : A f = some .none ∧ d f = 0
  inn : ∀ x, (A x).isSome = true → x = f ∨ x ∈ U
  par : ∀ x, (A x).isSome = true → x ≠ f → ∃ p, A x = some (.int p) ∧ (A p).isSome = true ∧ d x = d p + 1 ∧ Tb ts p x = true
  le : ∀ x, (A x).isSome = true → d x ≤ K + 1
  lev : ∀ x, x ∈ level ↔ (A x).isSome = true ∧ d x = K
  fol : ∀ x, x ∈ fol ↔ (A x).isSome = true ∧ d x = K + 1
  low : ∀ x y, (A x).isSome = true → d x < K → y ∈ U → Tb ts x y = true → (A y).isSome = true ∧ d y ≤ d x + 1
def unv (U : List Int) (A : Int → Option D) : Nat := (U.filter fun y => (A y).isNone).length
theorem unv_put {U : List Int} {A : Int → Option D} {y : Int} {v : D} (hy : y ∈ U) (hn : A y = none) : unv U (fun i => if i = y then some v else A i) < unv U A := by
  unfold unv
  have e : (U.filter fun z => (if z = y then some v else A z).isNone) = (U.filter fun z => (A z).isNone).filter fun z => !decide (z = y) := by
    rw [List.filter_filter]
    refine List.filter_congr fun z hz => ?_
    by_cases h : z = y
    · simp [h]
    · simp [h]
  rw [e]
  refine Nat.lt_of_le_of_ne (List.length_filter_le _ _) fun e => ?_
  have := List.length_filter_eq_length_iff.mp e y (List.mem_filter.mpr ⟨hy, by rw [hn]; rfl⟩)
  simp at this
theorem BW.step {ts : List (Int × Int)} {U level : List Int} {f : Int} {K : Nat} {A : Int → Option D} {d : Int → Nat} {fol : List Int} (h : BW ts U level f K A d fol) {p y : Int} (hp : p ∈ level) (hy : y ∈ U) (hn : A y = none) (ht : Tb ts p y = true) :
    BW ts U level f K (fun i => if i = y then some (.int p) else A i) (fun i => if i = y then K + 1 else d i) (fol ++ [y]) := by
  have hpv := (h.lev p).mp hp
  have vis : ∀ x, (A x).isSome = true → x ≠ y := fun x hx e => by rw [e, hn] at hx; cases hx
  have get : ∀ x, ((if x = y then some (PyData.int p) else A x).isSome = true) → x = y ∨ (x ≠ y ∧ (A x).isSome = true) := fun x hx => by
    by_cases e : x = y
    · exact .inl e
    · rw [if_neg e] at hx; exact .inr ⟨e, hx⟩
  have fy : f ≠ y := vis f (by rw [h.root.1]; rfl)
  have py : p ≠ y := vis p hpv.1
  refine ⟨⟨?_, ?_⟩, fun x hx => ?_, fun x hx hxf => ?_, fun x hx => ?_, fun x => ?_, fun x => ?_, fun x z hx hd hz htz => ?_⟩
  · show (if f = y then _ else A f) = _
    rw [if_neg fy]; exact h.root.1
  · show (if f = y then _ else d f) = _
    rw [if_neg fy]; exact h.root.2
  · rcases get x hx with rfl | ⟨_, hx⟩
    · exact .inr hy
    · exact h.inn x hx
  · rcases get x hx with rfl | ⟨ne, hx⟩
    · refine ⟨p, if_pos rfl, ?_, ?_, ht⟩
      · show (if p = x then _ else A p).isSome = true
        rw [if_neg py]; exact hpv.1
      · show (if x = x then _ else _) = (if p = x then _ else d p) + 1
        rw [if_pos rfl, if_neg py, hpv.2]
    · obtain ⟨q, h1, h2, h3, h4⟩ := h.par x hx hxf
      refine ⟨q, ?_, ?_, ?_, h4⟩
      · show (if x = y then _ else A x) = _
        rw [if_neg ne]; exact h1
      · show (if q = y then _ else A q).isSome = true
        rw [if_neg (vis q h2)]; exact h2
      · show (if x = y then _ else d x) = (if q = y then _ else d q) + 1
        rw [if_neg ne, if_neg (vis q h2)]; exact h3
  · show (if x = y then _ else d x) ≤ _
    rcases get x hx with rfl | ⟨ne, hx⟩
    · rw [if_pos rfl]; exact Nat.le_refl _
    · rw [if_neg ne]; exact h.le x hx
  · show _ ↔ (if x = y then _ else A x).isSome = true ∧ (if x = y then _ else d x) = K
    by_cases e : x = y
    · rw [if_pos e, if_pos e]
      constructor
      · intro hx
        exact (vis x ((h.lev x).mp hx).1 e).elim
      · rintro ⟨_, e2⟩; omega
    · rw [if_neg e, if_neg e]; exact h.lev x
  · show _ ↔ (if x = y then _ else A x).isSome = true ∧ (if x = y then _ else d x) = K + 1
    by_cases e : x = y
    · rw [if_pos e, if_pos e]
      exact ⟨fun _ => ⟨rfl, rfl⟩, fun _ => by rw [e]; simp⟩
    · rw [if_neg e, if_neg e, List.mem_append, h.fol x]
      exact ⟨fun q => q.resolve_right fun q => e (List.mem_singleton.mp q), .inl⟩
  · have hd : (if x = y then K + 1 else d x) < K := hd
    rcases get x hx with rfl | ⟨ne, hx⟩
    · rw [if_pos rfl] at hd; omega
    · rw [if_neg ne] at hd
      obtain ⟨h1, h2⟩ := h.low x z hx hd hz htz
      show (if z = y then _ else A z).isSome = true ∧ (if z = y then _ else d z) ≤ (if x = y then _ else d x) + 1
      rw [if_neg (vis z h1), if_neg (vis z h1), if_neg ne]
      exact ⟨h1, h2⟩
theorem BW.next {ts : List (Int × Int)} {U level : List Int} {f : Int} {K : Nat} {A : Int → Option D} {d : Int → Nat} {fol : List Int} (h : BW ts U level f K A d fol) (hd : ∀ x ∈ level, ∀ y ∈ U, Tb ts x y = true → (A y).isSome = true) : BW ts U fol f (K + 1) A d [] where
  root := h.root
  inn := h.inn
  par := h.par
  le := fun x hx => by have := h.le x hx; omega
  lev := h.fol
  fol := fun x => ⟨fun hx => (nomatch hx), fun ⟨h1, h2⟩ => by have := h.le x h1; omega⟩
  low := fun x y hx hlt hy ht => by
    by_cases e : d x < K
    · exact h.low x y hx e hy ht
    · have q := hd x ((h.lev x).mpr ⟨hx, by omega⟩) y hy ht
      have := h.le y q
      exact ⟨q, by omega⟩
/-- no walk from a to b over F: a set that is closed holds a, not b -/
def Blocked (ts : List (Int × Int)) (F : List Int) (a b : Int) : Prop := ∃ C : Int → Prop, C a ∧ (∀ x y, C x → y ∈ F ++ [b] → Tb ts x y = true → C y) ∧ ¬ C b
/-- a shortest walk from a to b over F -/
structure Walk (ts : List (Int × Int)) (F : List Int) (a b : Int) (w : List Int) : Prop where
  ends : ∃ mid, w = a :: mid ++ [b] ∧ ∀ z ∈ mid, z ∈ F
  tie : ∀ i : Nat, i + 1 < w.length → Tb ts (atZ w i) (atZ w (i + 1 : Nat)) = true
  far : ∀ i j : Nat, i + 1 < j → j < w.length → Tb ts (atZ w i) (atZ w j) = false
  nd : w.Nodup
theorem walked_back_ok {ts : List (Int × Int)} {U level : List Int} {f l : Int} {K : Nat} {A : Int → Option D} {d : Int → Nat} {kvs : List (D × D)} (hA : DIs kvs A) (h : BW ts U level f K A d []) (hl : (A l).isSome = true) (hdl : d l ≤ 100) {X : XF} {Q : R → S → Prop}
    (q : ∀ w fin, (∃ v, w = v ++ [l]) → (∃ v, w = f :: v) → (∀ i : Nat, i < w.length → (A (atZ w i)).isSome = true ∧ d (atZ w i) = i) → (∀ i : Nat, i + 1 < w.length → Tb ts (atZ w i) (atZ w (i + 1 : Nat)) = true) → Q (.own (.l (w.map .int))) fin) : m_walked_back [.dc kvs, .d (.int l)] X Q := by
  unfold m_walked_back b_walked_back
  refine st_sem rfl ?_
  array_get_dec
  refine loop_while (fun m s => ∃ v x, s = [.dc kvs, .d (.int l), .l ((v ++ [x]).map .int)] ∧ (A x).isSome = true ∧ d x = m ∧ m + v.length = d l ∧ (∃ u, (v ++ [x]).reverse = u ++ [l]) ∧ (∀ i : Nat, i < (v ++ [x]).length → (A (atZ (v ++ [x]).reverse i)).isSome = true ∧ d (atZ (v ++ [x]).reverse i) = m + i) ∧ ∀ i : Nat, i + 1 < (v ++ [x]).length → Tb ts (atZ (v ++ [x]).reverse i) (atZ (v ++ [x]).reverse (i + 1 : Nat)) = true) (fun m s k ⟨v, x, e, hx, hd, hm, hu, h1, h2⟩ hk => ?_) (d l) ⟨[], l, rfl, hl, rfl, by simp, ⟨[], rfl⟩, fun i hi => ?_, fun i hi => by simp at hi⟩
  · subst e
    have last : L2.atI ((v ++ [x]).map PyData.int) (-1) = some (.int x) := by
      rw [atZ_last (by simp)]
      congr 2
      simp [atZ]
    array_get_dec
    refine st_ix_l last ?_
    array_get_dec
    by_cases e : x = f
    · subst e
      refine st_ix2_I hA h.root.1 ?_
      array_get_dec
      rw [← List.map_reverse]
      have hd0 : m = 0 := by rw [← hd]; exact h.root.2
      subst hd0
      refine q _ _ hu ⟨v.reverse, by simp⟩ (fun i hi => ?_) (fun i hi => h2 i (by simpa using hi))
      have := h1 i (by simpa using hi)
      rw [Nat.zero_add] at this
      exact this
    · obtain ⟨p, p1, p2, p3, p4⟩ := h.par x hx e
      refine st_ix2_I hA p1 ?_
      array_get_dec
      refine st_iteT rfl ?_
      array_get_dec
      refine st_ix_l last ?_
      array_get_dec
      refine st_ix2_I hA p1 ?_
      array_get_dec
      refine st_append ?_ ?_
      · rw [List.length_map, List.length_append]; show _ + 1 < 16777216; omega
      array_get_dec
      have er : (v ++ [x] ++ [p]).reverse = p :: (v ++ [x]).reverse := by simp
      refine hk (d p) _ (by omega) ⟨v ++ [x], p, by simp; rfl, p2, rfl, by rw [List.length_append]; show d p + (v.length + 1) = d l; omega, ?_, fun i hi => ?_, fun i hi => ?_⟩
      · obtain ⟨u, hu⟩ := hu
        exact ⟨p :: u, by rw [er, hu]; rfl⟩
      · rw [er]
        cases i with
        | zero => exact ⟨p2, by simp [atZ]⟩
        | succ i =>
          have := h1 i (by simp at hi ⊢; omega)
          have e2 : atZ (p :: (v ++ [x]).reverse) ((i + 1 : Nat) : Int) = atZ (v ++ [x]).reverse (i : Int) := by simp [atZ]
          rw [e2]
          exact ⟨this.1, by rw [this.2]; omega⟩
      · rw [er]
        cases i with
        | zero =>
          have e2 : atZ (p :: (v ++ [x]).reverse) ((0 + 1 : Nat) : Int) = x := by simp [atZ]
          rw [e2]
          have e3 : atZ (p :: (v ++ [x]).reverse) ((0 : Nat) : Int) = p := by simp [atZ]
          rw [e3]
          exact p4
        | succ i =>
          have := h2 i (by simp at hi ⊢; omega)
          have e2 : ∀ j : Nat, atZ (p :: (v ++ [x]).reverse) ((j + 1 : Nat) : Int) = atZ (v ++ [x]).reverse (j : Int) := fun j => by simp [atZ]
          rw [e2 i, e2 (i + 1)]
          exact this
  · have : i = 0 := by simpa using hi
    subst this
    exact ⟨by simpa [atZ] using hl, by simp [atZ]⟩
theorem BW.start {ts : List (Int × Int)} {U : List Int} {f : Int} {A : Int → Option D} (hA : A = fun i => if i = f then some .none else none) : BW ts U [f] f 0 A (fun _ => 0) [] := by
  have only : ∀ x, (A x).isSome = true → x = f := fun x hx => by
    rw [hA] at hx
    by_cases e : x = f
    · exact e
    · simp [e] at hx
  refine ⟨⟨by rw [hA]; simp, rfl⟩, fun x hx => .inl (only x hx), fun x hx hxf => (hxf (only x hx)).elim, fun x hx => Nat.zero_le _, fun x => ⟨fun hx => ?_, fun ⟨hx, _⟩ => by rw [only x hx]; simp⟩, fun x => ⟨fun hx => (nomatch hx), fun ⟨_, h⟩ => by simp at h⟩, fun x y hx h => by simp at h⟩
  rw [List.mem_singleton.mp hx, hA]
  simp
theorem unv_le {U : List Int} {A : Int → Option D} : unv U A ≤ U.length := List.length_filter_le _ _
theorem BW.walk {ts : List (Int × Int)} {F level : List Int} {a b : Int} {K : Nat} {A : Int → Option D} {d : Int → Nat} (h : BW ts (F ++ [b]) level a K A d []) (hab : a ≠ b) (haF : a ∉ F) {w : List Int} (e1 : ∃ v, w = v ++ [b]) (e2 : ∃ v, w = a :: v) (hd : ∀ i : Nat, i < w.length → (A (atZ w i)).isSome = true ∧ d (atZ w i) = i) (ht : ∀ i : Nat, i + 1 < w.length → Tb ts (atZ w i) (atZ w (i + 1 : Nat)) = true) : Walk ts F a b w := by
  have nd : w.Nodup := by
    rw [nodup_atZ]
    intro i j h1 h2 e
    have q1 := (hd i h2).2
    have q2 := (hd j (by omega)).2
    rw [e] at q2
    omega
  have fol0 : ∀ x, (A x).isSome = true → d x ≤ K := fun x hx => by
    have h1 := h.le x hx
    have h2 := (h.fol x).mpr
    by_cases e : d x = K + 1
    · exact (nomatch (h2 ⟨hx, e⟩))
    · omega
  refine ⟨?_, ht, fun i j h1 h2 => ?_, nd⟩
  · obtain ⟨v, rfl⟩ := e1
    obtain ⟨v2, e⟩ := e2
    cases v with
    | nil => exact (hab (List.cons.inj e).1.symm).elim
    | cons x mid =>
      obtain ⟨rfl, _⟩ := List.cons.inj e
      refine ⟨mid, rfl, fun z hz => ?_⟩
      obtain ⟨j, hj, rfl⟩ := List.mem_iff_getElem.mp hz
      have hlen : j + 1 < (x :: mid ++ [b]).length := by simp; omega
      obtain ⟨q1, q2⟩ := hd (j + 1) hlen
      have e3 : atZ (x :: mid ++ [b]) ((j + 1 : Nat) : Int) = mid[j] := by
        simp [atZ, List.getElem?_append_left hj, List.getElem?_eq_getElem hj]
      rw [e3] at q1 q2
      have nx : mid[j] ≠ x := fun e => by rw [e, h.root.2] at q2; omega
      rcases h.inn _ q1 with e4 | e4
      · exact (nx e4).elim
      · rcases List.mem_append.mp e4 with e4 | e4
        · exact e4
        · have e4 := List.mem_singleton.mp e4
          have hb := hd (mid.length + 1) (by simp)
          have e5 : atZ (x :: mid ++ [b]) ((mid.length + 1 : Nat) : Int) = b := by simp [atZ]
          rw [e5, ← e4, q2] at hb
          omega
  · obtain ⟨q1, q2⟩ := hd i (by omega)
    obtain ⟨q3, q4⟩ := hd j h2
    have hjK := fol0 _ q3
    cases ht2 : Tb ts (atZ w i) (atZ w j) with
    | false => rfl
    | true =>
      have hj : atZ w j ∈ F ++ [b] := by
        rcases h.inn _ q3 with e | e
        · rw [e, h.root.2] at q4; omega
        · exact e
      have := (h.low _ _ q1 (by omega) hj ht2).2
      omega
theorem BW.blocked {ts : List (Int × Int)} {F : List Int} {a b : Int} {K : Nat} {A : Int → Option D} {d : Int → Nat} (h : BW ts (F ++ [b]) [] a K A d []) (hb : (A b).isSome = false) : Blocked ts F a b := by
  refine ⟨fun x => (A x).isSome = true, by show (A a).isSome = true; rw [h.root.1]; rfl, fun x y hx hy ht => ?_, by show ¬ (A b).isSome = true; rw [hb]; exact fun z => nomatch z⟩
  have h1 := h.le x hx
  have h2 : d x ≠ K + 1 := fun e => (nomatch (h.fol x).mpr ⟨hx, e⟩)
  have h3 : d x ≠ K := fun e => (nomatch (h.lev x).mpr ⟨hx, e⟩)
  exact (h.low x y hx (by omega) hy ht).1
theorem shortest_walk_ok {n a b : Int} {ts : List (Int × Int)} {F : List Int} (hF : In' n F) (hF2 : F.length ≤ 10) (ha : 0 ≤ a ∧ a < n) (hb : 0 ≤ b ∧ b < n) (hab : a ≠ b) (haF : a ∉ F) {X : XF} {Q : R → S → Prop}
    (q0 : ∀ fin, Blocked ts F a b → Q (.d .none) fin) (q1 : ∀ w fin, Walk ts F a b w → w.length ≤ 30 → (∀ z ∈ w, 0 ≤ z ∧ z < n) → Q (.own (.l (w.map .int))) fin) : m_shortest_walk [.d (RD n ts), .d (.list (F.map .int)), .d (.int a), .d (.int b)] X Q := by
  unfold m_shortest_walk b_shortest_walk
  have hUn : ∀ z ∈ F ++ [b], 0 ≤ z ∧ z < n := fun z hz => by
    rcases List.mem_append.mp hz with hz | hz
    · exact hF.1 z hz
    · rw [List.mem_singleton.mp hz]; exact hb
  have hUl : (F ++ [b]).length ≤ 11 := by rw [List.length_append]; simp; omega
  have hU : In' n (F ++ [b]) := ⟨hUn, by omega⟩
  have ulow : ∀ A, unv (F ++ [b]) A ≤ 11 := fun A => Nat.le_trans unv_le hUl
  refine st_sem rfl ?_
  array_get_dec
  refine loop_while (fun m s => ∃ (lev : List Int) (kvs : List (D × D)) (A : Int → Option D) (d : Int → Nat) (K : Nat) (w : SV), (w = .l (lev.map .int) ∨ w = .d (.list (lev.map .int))) ∧ s = [.d (RD n ts), .d (.list (F.map .int)), .d (.int a), .d (.int b), .dc kvs, w, .no, .no, .no] ∧ DIs kvs A ∧ BW ts (F ++ [b]) lev a K A d [] ∧
      kvs.length + unv (F ++ [b]) A ≤ 12 ∧ lev.length ≤ 12 ∧ K + unv (F ++ [b]) A ≤ 11 + (if lev = [] then 1 else 0) ∧ m = 2 * unv (F ++ [b]) A + (if lev = [] then 0 else 1)) ?_ _ ⟨[a], [(keyD (.inl a), .none)], _, fun _ => 0, 0, .l [.int a], .inl rfl, rfl, DIs.one a .none, BW.start rfl, ?_, by simp, ?_, rfl⟩
  rotate_left
  · have := ulow (fun i => if i = a then some .none else none)
    simp only [List.length_cons, List.length_nil]
    omega
  · have := ulow (fun i => if i = a then some .none else none)
    rw [if_neg (by simp)]
    omega
  rintro m s k ⟨lev, kvs, A, d, K, w, hw, rfl, hA, hB, hkl, hll, hKl, rfl⟩ hk
  have levn : ∀ z ∈ lev, 0 ≤ z ∧ z < n := fun z hz => by
    rcases hB.inn z ((hB.lev z).mp hz).1 with rfl | h
    · exact ha
    · exact hUn z h
  rcases hw with rfl | rfl
  all_goals
    array_get_dec
    refine st_ne_ll (ms := []) ?_
    array_get_dec
    refine st_ite (fun q => ?_) (fun q => ?_)
    · array_get_dec
      refine st_ninK_I hA ?_
      array_get_dec
      have hne : lev ≠ [] := by simpa using q
      have hl1 : 1 ≤ lev.length := by
        cases lev with
        | nil => exact (hne rfl).elim
        | cons _ _ => simp
      rw [if_neg hne] at hKl
      refine st_ite (fun q2 => ?_) (fun q2 => ?_)
      · array_get_dec
        refine loop_list PyData.int (fun l s => ∃ (done : List Int) (kvs' : List (D × D)) (A' : Int → Option D) (d' : Int → Nat) (fol : List Int), lev = done ++ l ∧ s = [.d (RD n ts), .d (.list (F.map .int)), .d (.int a), .d (.int b), .dc kvs', .d (.list (lev.map .int)), .l (fol.map .int), .no, .no] ∧ DIs kvs' A' ∧ BW ts (F ++ [b]) lev a K A' d' fol ∧
          kvs'.length + unv (F ++ [b]) A' ≤ 12 ∧ fol.length + unv (F ++ [b]) A' ≤ unv (F ++ [b]) A ∧ ∀ x ∈ done, ∀ y ∈ F ++ [b], Tb ts x y = true → (A' y).isSome = true) ?_ ?_ _ _ ⟨[], kvs, A, d, [], rfl, rfl, hA, hB, hkl, by simp, fun x hx => (nomatch hx)⟩
        · rintro s ⟨done, kvs', A', d', fol, e, rfl, hA', hB', hkl', hf', hd'⟩
          rw [List.append_nil] at e
          subst e
          array_get_dec
          have h0 := ulow A
          refine hk _ _ ?_ ⟨fol, kvs', A', d', K + 1, _, .inr rfl, rfl, hA', hB'.next hd', hkl', by omega, ?_, rfl⟩
          · rw [if_neg hne]
            by_cases e : fol = []
            · rw [if_pos e]; omega
            · rw [if_neg e]
              have : 1 ≤ fol.length := by
                cases fol with
                | nil => exact (e rfl).elim
                | cons _ _ => simp
              omega
          · by_cases e : fol = []
            · rw [if_pos e]; omega
            · rw [if_neg e]
              have : 1 ≤ fol.length := by
                cases fol with
                | nil => exact (e rfl).elim
                | cons _ _ => simp
              omega
        · rintro z l s k2 ⟨done, kvs', A', d', fol, e, rfl, hA', hB', hkl', hf', hd'⟩ hk2
          have hzl : z ∈ lev := by rw [e]; simp
          array_get_dec
          refine st_add_l ?_ ?_
          · rw [List.length_map]; have := hF.2; show F.length + 1 ≤ 16777216; omega
          rw [show F.map PyData.int ++ [PyData.int b] = (F ++ [b]).map PyData.int by simp]
          array_get_dec
          refine nears_among_ok hU (levn z hzl) fun fin => ?_
          array_get_dec
          refine loop_list PyData.int (fun l2 s => ∃ (done2 : List Int) (kvs2 : List (D × D)) (A2 : Int → Option D) (d2 : Int → Nat) (fol2 : List Int), (F ++ [b]).filter (Tb ts z) = done2 ++ l2 ∧ s = [.d (RD n ts), .d (.list (F.map .int)), .d (.int a), .d (.int b), .dc kvs2, .d (.list (lev.map .int)), .l (fol2.map .int), .d (.int z), .no] ∧ DIs kvs2 A2 ∧ BW ts (F ++ [b]) lev a K A2 d2 fol2 ∧
            kvs2.length + unv (F ++ [b]) A2 ≤ 12 ∧ fol2.length + unv (F ++ [b]) A2 ≤ unv (F ++ [b]) A ∧ (∀ x ∈ done, ∀ y ∈ F ++ [b], Tb ts x y = true → (A2 y).isSome = true) ∧ ∀ y ∈ done2, (A2 y).isSome = true) ?_ ?_ _ _ ⟨[], kvs', A', d', fol, rfl, rfl, hA', hB', hkl', hf', hd', fun y hy => (nomatch hy)⟩
          · rintro s ⟨done2, kvs2, A2, d2, fol2, e2, rfl, hA2, hB2, hkl2, hf2, hd2, hy2⟩
            rw [List.append_nil] at e2
            refine hk2 _ ⟨done ++ [z], kvs2, A2, d2, fol2, by rw [e]; simp, rfl, hA2, hB2, hkl2, hf2, fun x hx y hy ht => ?_⟩
            rcases List.mem_append.mp hx with hx | hx
            · exact hd2 x hx y hy ht
            · rw [List.mem_singleton.mp hx] at ht
              refine hy2 y ?_
              rw [← e2]
              exact List.mem_filter.mpr ⟨hy, ht⟩
          · rintro y l2 s k3 ⟨done2, kvs2, A2, d2, fol2, e2, rfl, hA2, hB2, hkl2, hf2, hd2, hy2⟩ hk3
            have hym := List.mem_filter.mp (show y ∈ (F ++ [b]).filter (Tb ts z) by rw [e2]; simp)
            have h0 := ulow A
            array_get_dec
            refine st_ninK_I hA2 ?_
            array_get_dec
            refine st_ite (fun q3 => ?_) (fun q3 => ?_)
            · have hn : A2 y = none := by
                cases h : A2 y with
                | none => rfl
                | some v => rw [h] at q3; cases q3
              array_get_dec
              refine hA2.dPut (by show _ < 16777216; omega) fun kvs3 hA3 hl3 => ?_
              array_get_dec
              refine st_append ?_ ?_
              · rw [List.length_map]; show _ < 16777216; omega
              array_get_dec
              have hu := unv_put (U := F ++ [b]) (A := A2) (v := .int z) hym.1 hn
              have mono : ∀ x, (A2 x).isSome = true → ((fun i => if i = y then some (PyData.int z) else A2 i) x).isSome = true := fun x hx => by
                show (if x = y then _ else A2 x).isSome = true
                split
                · rfl
                · exact hx
              refine hk3 _ ⟨done2 ++ [y], kvs3, _, _, fol2 ++ [y], by rw [e2]; simp, by rw [List.map_append]; rfl, hA3, hB2.step hzl hym.1 hn hym.2, by omega, by rw [List.length_append]; show fol2.length + 1 + _ ≤ _; omega, fun x hx u hu ht => mono _ (hd2 x hx u hu ht), fun u hu => ?_⟩
              rcases List.mem_append.mp hu with hu | hu
              · exact mono _ (hy2 u hu)
              · rw [List.mem_singleton.mp hu]
                show (if y = y then _ else A2 y).isSome = true
                rw [if_pos rfl]; rfl
            · have hn : (A2 y).isSome = true := by simpa using q3
              array_get_dec
              refine hk3 _ ⟨done2 ++ [y], kvs2, A2, d2, fol2, by rw [e2]; simp, rfl, hA2, hB2, hkl2, hf2, hd2, fun u hu => ?_⟩
              rcases List.mem_append.mp hu with hu | hu
              · exact hy2 u hu
              · rw [List.mem_singleton.mp hu]; exact hn
      · have hbv : (A b).isSome = true := by simpa using q2
        array_get_dec
        refine st_ninK_I hA ?_
        array_get_dec
        refine st_iteF (by rw [hbv]; rfl) ?_
        array_get_dec
        have := hB.le b hbv
        refine walked_back_ok hA hB hbv (by omega) fun w fin e1 e2 hd ht => ?_
        array_get_dec
        refine q1 _ _ (hB.walk hab haF e1 e2 hd ht) ?_ fun z hz => ?_
        · by_cases hw0 : w.length = 0
          · omega
          · obtain ⟨d1, d2⟩ := hd (w.length - 1) (by omega)
            have := hB.le _ d1
            have := ulow A
            omega
        · obtain ⟨j, hj, rfl⟩ := List.mem_iff_getElem.mp hz
          have d1 := (hd j hj).1
          have e3 : atZ w (j : Int) = w[j] := by simp [atZ, List.getElem?_eq_getElem hj]
          rw [e3] at d1
          rcases hB.inn _ d1 with e4 | e4
          · rw [e4]; exact ha
          · exact hUn _ e4
    · have hne : lev = [] := by simpa using q
      subst hne
      array_get_dec
      refine st_ninK_I hA ?_
      array_get_dec
      refine st_ite (fun q2 => ?_) (fun q2 => ?_)
      · have hbv : (A b).isSome = false := by simpa using q2
        array_get_dec
        exact q0 _ (hB.blocked hbv)
      · have hbv : (A b).isSome = true := by simpa using q2
        array_get_dec
        have := hB.le b hbv
        rw [if_pos rfl] at hKl
        refine walked_back_ok hA hB hbv (by omega) fun w fin e1 e2 hd ht => ?_
        array_get_dec
        refine q1 _ _ (hB.walk hab haF e1 e2 hd ht) ?_ fun z hz => ?_
        · by_cases hw0 : w.length = 0
          · omega
          · obtain ⟨d1, d2⟩ := hd (w.length - 1) (by omega)
            have := hB.le _ d1
            have := ulow A
            omega
        · obtain ⟨j, hj, rfl⟩ := List.mem_iff_getElem.mp hz
          have d1 := (hd j hj).1
          have e3 : atZ w (j : Int) = w[j] := by simp [atZ, List.getElem?_eq_getElem hj]
          rw [e3] at d1
          rcases hB.inn _ d1 with e4 | e4
          · rw [e4]; exact ha
          · exact hUn _ e4
def freeOf (ts : List (Int × Int)) (L : List Int) (p : Int) : List Int := L.filter fun z => !decide (z = p) && !Tb ts p z
/-- what is found at a place: nothing goes, or a ring -/
def RingN (ts : List (Int × Int)) (L : List Int) (p : Int) : Prop := ∀ a ∈ L, ∀ b ∈ L, a ≠ b → Tb ts p a = true → Tb ts p b = true → Tb ts a b = false → Blocked ts (freeOf ts L p) a b ∨ Blocked ts (freeOf ts L p) b a
def RingY (ts : List (Int × Int)) (L : List Int) (p : Int) (r : List Int) : Prop := ∃ a b w, a ∈ L ∧ b ∈ L ∧ a ≠ b ∧ Tb ts p a = true ∧ Tb ts p b = true ∧ Tb ts a b = false ∧ Walk ts (freeOf ts L p) a b w ∧ r = p :: w
theorem ring_at_ok {n p : Int} {ts : List (Int × Int)} {L : List Int} (hL : In' n L) (hL2 : L.length ≤ 10) (hnd : L.Nodup) (hp : 0 ≤ p ∧ p < n) {X : XF} {Q : R → S → Prop}
    (q0 : ∀ fin, RingN ts L p → Q (.d .none) fin) (q1 : ∀ r fin, RingY ts L p r → r.length ≤ 31 → (∀ z ∈ r, 0 ≤ z ∧ z < n) → Q (.own (.l (r.map .int))) fin) : m_ring_at [.d (RD n ts), .d (.list (L.map .int)), .d (.int p)] X Q := by
  unfold m_ring_at b_ring_at
  refine st_sem rfl ?_
  array_get_dec
  refine nears_among_ok hL hp fun fin => ?_
  array_get_dec
  refine ⟨by rw [List.length_map]; show _ ≤ 16777216; omega, ?_⟩
  array_get_dec
  refine comp_filter PyData.int PyData.int (fun z => !decide (z = p) && !Tb ts p z) _ (fun z hz kT kF hT hF => ?_) ?_
  · have hz := hL.1 z hz
    array_get_dec
    refine st_ite (fun q => ?_) (fun q => ?_)
    · array_get_dec
      refine st_ix_l (rd_at hp) ?_
      array_get_dec
      refine st_ix_l (cell_at hz.1 (by omega)) ?_
      array_get_dec
      refine st_ite (fun q2 => ?_) (fun q2 => ?_)
      · array_get_dec
        exact hT (by rw [q, q2]; rfl)
      · exact hF (by rw [q, q2]; rfl)
    · array_get_dec
      exact hF (by rw [q]; rfl)
  rw [show (L.filter fun z => !decide (z = p) && !Tb ts p z) = freeOf ts L p from rfl]
  generalize hN : L.filter (Tb ts p) = N
  have hNs : N.Sublist L := by rw [← hN]; exact List.filter_sublist
  have hNn : N.Nodup := hNs.nodup hnd
  have hNm : ∀ z, z ∈ N ↔ z ∈ L ∧ Tb ts p z = true := fun z => by rw [← hN, List.mem_filter]
  have hNl : N.length ≤ 10 := Nat.le_trans hNs.length_le hL2
  have hfr : ∀ z ∈ N, z ∉ freeOf ts L p := fun z hz hm => by
    have h1 := (List.mem_filter.mp hm).2
    rw [((hNm z).mp hz).2] at h1
    simp at h1
  have hFi : In' n (freeOf ts L p) := hL.sub List.filter_sublist
  have hFl : (freeOf ts L p).length ≤ 10 := Nat.le_trans (List.length_filter_le _ _) hL2
  array_get_dec
  rw [enum_ints']
  generalize hF : freeOf ts L p = F at *
  refine loop_nat (fun i s => ∃ w : SV, (w = .l (F.map .int) ∨ w = .d (.list (F.map .int))) ∧ s = [.d (RD n ts), .d (.list (L.map .int)), .d (.int p), .d (.list (N.map .int)), w, .no, .no, .no, .no, .no] ∧ ∀ x y : Nat, x < i → x < y → y < N.length → Tb ts (atZ N x) (atZ N y) = false → Blocked ts F (atZ N x) (atZ N y)) ?_ ?_ ⟨_, .inl rfl, rfl, fun x y h => by omega⟩
  · rintro s ⟨w, _, rfl, hb⟩
    array_get_dec
    refine q0 _ fun a ha b hb2 hab t1 t2 t3 => ?_
    rw [hF]
    obtain ⟨i, hi, e1⟩ := List.mem_iff_getElem.mp ((hNm a).mpr ⟨ha, t1⟩)
    obtain ⟨j, hj, e2⟩ := List.mem_iff_getElem.mp ((hNm b).mpr ⟨hb2, t2⟩)
    have e3 : atZ N (i : Int) = a := by simp [atZ, List.getElem?_eq_getElem hi, e1]
    have e4 : atZ N (j : Int) = b := by simp [atZ, List.getElem?_eq_getElem hj, e2]
    rcases Nat.lt_trichotomy i j with h | h | h
    · left
      rw [← e3, ← e4]
      exact hb i j hi h hj (by rw [e3, e4]; exact t3)
    · subst h
      exact (hab (e1.symm.trans e2)).elim
    · right
      rw [← e3, ← e4]
      exact hb j i hj h hi (by rw [e3, e4, Tb_symm]; exact t3)
  · rintro i s k hi ⟨w, hw, rfl, hb⟩ hk
    have hai : atZ N i ∈ N := atZ_in hi
    array_get_dec
    rw [show (i : Int) + 1 = ((i + 1 : Nat) : Int) by omega, cut_from]
    array_get_dec
    refine loop_list PyData.int (fun l s => ∃ (w : SV) (done : List Int), (w = .l (F.map .int) ∨ w = .d (.list (F.map .int))) ∧ N.drop (i + 1) = done ++ l ∧ s = [.d (RD n ts), .d (.list (L.map .int)), .d (.int p), .d (.list (N.map .int)), w, .no, .d (.int i), .d (.int (atZ N i)), .no, .no] ∧ ∀ y ∈ done, Tb ts (atZ N i) y = false → Blocked ts F (atZ N i) y) ?_ ?_ _ _ ⟨w, [], hw, rfl, rfl, fun y hy => (nomatch hy)⟩
    · rintro s ⟨w, done, hw, e, rfl, hd⟩
      rw [List.append_nil] at e
      refine hk _ ⟨w, hw, rfl, fun x y h1 h2 h3 ht => ?_⟩
      by_cases e1 : x = i
      · subst e1
        refine hd _ ?_ ht
        rw [← e]
        refine List.mem_iff_getElem.mpr ⟨y - (x + 1), by rw [List.length_drop]; omega, ?_⟩
        rw [List.getElem_drop]
        simp [atZ, show x + 1 + (y - (x + 1)) = y by omega, List.getElem?_eq_getElem h3]
      · exact hb x y (by omega) h2 h3 ht
    · rintro y l s k2 ⟨w, done, hw, e, rfl, hd⟩ hk2
      have hyd : y ∈ N.drop (i + 1) := by rw [e]; simp
      have hy : y ∈ N := List.mem_of_mem_drop hyd
      have hn1 := hL.1 _ (hNs.subset hai)
      have hn2 := hL.1 _ (hNs.subset hy)
      have ne : atZ N i ≠ y := fun e5 => by
        obtain ⟨j, hj, e6⟩ := List.mem_iff_getElem.mp hyd
        rw [List.getElem_drop] at e6
        rw [List.length_drop] at hj
        have e7 : atZ N ((i + 1 + j : Nat) : Int) = y := by
          unfold atZ
          rw [Int.toNat_natCast, List.getD_eq_getElem?_getD, List.getElem?_eq_getElem (show i + 1 + j < N.length by omega)]
          exact e6
        exact (nodup_atZ.mp hNn (i + 1 + j) i (by omega) (by omega)) (e5.trans e7.symm)
      array_get_dec
      refine st_ix_l (rd_at hn1) ?_
      array_get_dec
      refine st_ix_l (cell_at hn2.1 (by omega)) ?_
      array_get_dec
      refine st_ite (fun q => ?_) (fun q => ?_)
      · have q : Tb ts (atZ N i) y = false := by simpa using q
        rcases hw with rfl | rfl
        all_goals
          array_get_dec
          refine shortest_walk_ok hFi hFl hn1 hn2 ne (hfr _ hai) (fun fin hbl => ?_) (fun v fin hv hl hz => ?_)
          · array_get_dec
            refine hk2 _ ⟨_, done ++ [y], .inr rfl, by rw [e]; simp, rfl, fun u hu ht => ?_⟩
            rcases List.mem_append.mp hu with hu | hu
            · exact hd u hu ht
            · rw [List.mem_singleton.mp hu]; exact hbl
          · array_get_dec
            refine st_iteT rfl ?_
            array_get_dec
            refine st_add_l ?_ ?_
            · rw [List.length_map]; show 1 + v.length ≤ 16777216; omega
            array_get_dec
            have := q1 (p :: v) [.d (RD n ts), .d (.list (L.map .int)), .d (.int p)] ⟨atZ N i, y, v, hNs.subset hai, hNs.subset hy, ne, ((hNm _).mp hai).2, ((hNm _).mp hy).2, q, by rw [hF]; exact hv, rfl⟩ (by simp; omega) (fun z hz2 => by
              rcases List.mem_cons.mp hz2 with rfl | hz2
              · exact hp
              · exact hz z hz2)
            exact this
      · have q : Tb ts (atZ N i) y = true := by simpa using q
        array_get_dec
        refine hk2 _ ⟨w, done ++ [y], hw, by rw [e]; simp, rfl, fun u hu ht => ?_⟩
        rcases List.mem_append.mp hu with hu | hu
        · exact hd u hu ht
        · rw [List.mem_singleton.mp hu, q] at ht; cases ht
theorem ring_among_ok {n : Int} {ts : List (Int × Int)} {L : List Int} (hL : In' n L) (hL2 : L.length ≤ 10) (hnd : L.Nodup) {X : XF} {Q : R → S → Prop}
    (q0 : ∀ fin, (∀ p ∈ L, RingN ts L p) → Q (.own (.l [])) fin) (q1 : ∀ p r fin, p ∈ L → RingY ts L p r → r.length ≤ 31 → (∀ z ∈ r, 0 ≤ z ∧ z < n) → Q (.own (.l (r.map .int))) fin) : m_ring_among [.d (RD n ts), .d (.list (L.map .int))] X Q := by
  unfold m_ring_among b_ring_among
  refine st_sem rfl ?_
  array_get_dec
  refine loop_list PyData.int (fun l s => ∃ done, L = done ++ l ∧ s = [.d (RD n ts), .d (.list (L.map .int)), .no, .no] ∧ ∀ p ∈ done, RingN ts L p) ?_ ?_ _ _ ⟨[], rfl, rfl, fun y hy => (nomatch hy)⟩
  · rintro s ⟨done, e, rfl, hd⟩
    rw [List.append_nil] at e
    array_get_dec
    exact q0 _ (by rw [e] at hd ⊢; exact hd)
  · rintro p l s k ⟨done, e, rfl, hd⟩ hk
    have hp : p ∈ L := by rw [e]; simp
    array_get_dec
    refine ring_at_ok hL hL2 hnd (hL.1 p hp) (fun fin hr => ?_) (fun r fin hr hl hz => ?_)
    · array_get_dec
      refine hk _ ⟨done ++ [p], by rw [e]; simp, rfl, fun u hu => ?_⟩
      rcases List.mem_append.mp hu with hu | hu
      · exact hd u hu
      · rw [List.mem_singleton.mp hu]; exact hr
    · array_get_dec
      refine st_iteT rfl ?_
      array_get_dec
      exact q1 p r _ hp hr hl hz
theorem range_in {n : Int} (n0 : 0 ≤ n) (n10 : n ≤ 10) : In' n (rangeI n.toNat) := ⟨fun z hz => by have := rangeI_mem.mp hz; omega, by rw [rangeI_len]; omega⟩
theorem fold_in_ok {n : Int} {ts : List (Int × Int)} (g : Good n ts) {X : XF} {Q : R → S → Prop} (q0 : ∀ o fin, Steps ts (rangeI n.toNat) o [] → Q (.d (.tuple [.str "fold", .tuple (o.map .int)])) fin)
    (q1 : ∀ o M r fin, Steps ts (rangeI n.toNat) o M → Stuck ts M → M ≠ [] → ((r = [] ∧ ∀ p ∈ M, RingN ts M p) ∨ ∃ p ∈ M, RingY ts M p r) → r.length ≤ 31 → (∀ z ∈ r, 0 ≤ z ∧ z < n) → Q (.d (.tuple [.str "ring", .list (r.map .int)])) fin) : m_fold_in [.d (webD n ts)] X Q := by
  unfold m_fold_in b_fold_in
  have hr := range_in g.n0 g.n10
  refine st_sem rfl ?_
  array_get_dec
  refine rows_of_ok g fun fin => ?_
  array_get_dec
  refine all_places_ok g fun fin => ?_
  array_get_dec
  refine folded_ok hr fun o M fin hs hM => ?_
  array_get_dec
  refine st_eq_ll (ms := []) ?_
  array_get_dec
  refine st_ite (fun q => ?_) (fun q => ?_)
  · have e : M = [] := by simpa using q
    subst e
    array_get_dec
    exact q0 o _ hs
  · have e : M ≠ [] := by simpa using q
    have hM2 := hs.sub
    array_get_dec
    refine ring_among_ok (hr.sub hM2) (by have := hM2.length_le; rw [rangeI_len] at this; have := g.n10; omega) (hM2.nodup range_nd) (fun fin h => ?_) (fun p r fin hp h hl hz => ?_)
    · array_get_dec
      exact q1 o M [] _ hs hM e (.inl ⟨rfl, h⟩) (by simp) (fun z hz => (nomatch hz))
    · array_get_dec
      exact q1 o M r _ hs hM e (.inr ⟨p, hp, h⟩) hl hz
theorem fold_ok {n : Int} {ts : List (Int × Int)} (g : Good n ts) {X : XF} {Q : R → S → Prop} (q0 : ∀ o fin, Steps ts (rangeI n.toNat) o [] → Q (.d (.tuple [.str "fold", .tuple (o.map .int)])) fin)
    (q1 : ∀ o M r fin, Steps ts (rangeI n.toNat) o M → Stuck ts M → M ≠ [] → ((r = [] ∧ ∀ p ∈ M, RingN ts M p) ∨ ∃ p ∈ M, RingY ts M p r) → r.length ≤ 31 → (∀ z ∈ r, 0 ≤ z ∧ z < n) → Q (.d (.tuple [.str "ring", .list (r.map .int)])) fin) : m_fold [.d (webD n ts)] X Q := by
  unfold m_fold b_fold
  refine st_sem rfl ?_
  array_get_dec
  refine need_web_ok g fun fin => ?_
  array_get_dec
  refine fold_in_ok g (fun o fin h => ?_) (fun o M r fin h1 h2 h3 h4 h5 h6 => ?_)
  · array_get_dec
    exact q0 o _ h
  · array_get_dec
    exact q1 o M r _ h1 h2 h3 h4 h5 h6
theorem Simp.sub {ts : List (Int × Int)} {L M : List Int} {p : Int} (h : Simp ts L p) (s : M.Sublist L) : Simp ts M p := List.Pairwise.sublist (s.filter _) h
theorem out_comm {L : List Int} {p q : Int} : out (out L p) q = out (out L q) p := by
  unfold out
  rw [List.filter_filter, List.filter_filter]
  exact List.filter_congr fun z _ => Bool.and_comm _ _
theorem Steps.drop {ts : List (Int × Int)} : ∀ {L : List Int} {o : List Int} {p : Int}, Steps ts L o [] → p ∈ L → Simp ts L p → ∃ o', Steps ts (out L p) o' []
  | _, _, p, .nil, hp, _ => nomatch hp
  | L, _, p, .cons (p := q) h1 h2 r, hp, hs => by
    by_cases e : p = q
    · subst e; exact ⟨_, r⟩
    · obtain ⟨o', h⟩ := r.drop (p := p) (out_mem.mpr ⟨hp, e⟩) (hs.sub out_sub)
      rw [out_comm] at h
      exact ⟨q :: o', .cons (out_mem.mpr ⟨h1, fun e2 => e e2.symm⟩) (h2.sub out_sub) h⟩
theorem Steps.rest {ts : List (Int × Int)} : ∀ {L M : List Int} {o : List Int}, Steps ts L o M → ∀ {o2 : List Int}, Steps ts L o2 [] → ∃ o', Steps ts M o' []
  | _, _, _, .nil, _, h => ⟨_, h⟩
  | _, _, _, .cons h1 h2 r, _, h => by
    obtain ⟨o', h'⟩ := h.drop h1 h2
    exact r.rest h'
theorem stuck_nil {ts : List (Int × Int)} {M : List Int} (hs : Stuck ts M) : ∀ {o : List Int}, Steps ts M o [] → M = []
  | _, .nil => rfl
  | _, .cons h1 h2 _ => (hs _ h1 h2).elim
theorem left_one {ts : List (Int × Int)} {L M N o1 o2 : List Int} (h1 : Steps ts L o1 M) (hM : Stuck ts M) (h2 : Steps ts L o2 N) (e : N = []) : M = [] := by
  subst e
  obtain ⟨o', h⟩ := h1.rest h2
  exact stuck_nil hM h
theorem out_perm {L : List Int} {p : Int} (hn : L.Nodup) (hp : p ∈ L) : (p :: out L p).Perm L := by
  refine (List.perm_ext_iff_of_nodup (List.nodup_cons.mpr ⟨fun h => (out_mem.mp h).2 rfl, hn.sublist out_sub⟩) hn).mpr fun z => ?_
  rw [List.mem_cons, out_mem]
  constructor
  · rintro (rfl | ⟨h, _⟩)
    · exact hp
    · exact h
  · intro h
    by_cases e : z = p
    · exact .inl e
    · exact .inr ⟨h, e⟩
theorem Steps.order {ts : List (Int × Int)} : ∀ {L : List Int} {o : List Int}, Steps ts L o [] → L.Nodup → o.Perm L ∧ ∀ i : Nat, i < o.length → Tied ts ((o.drop (i + 1)).filter (Tb ts (atZ o i)))
  | _, _, .nil, _ => ⟨.nil, fun i h => by simp at h⟩
  | L, _, .cons (p := p) (o := o) h1 h2 r, hn => by
    obtain ⟨q1, q2⟩ := r.order (hn.sublist out_sub)
    refine ⟨(q1.cons p).trans (out_perm hn h1), fun i hi => ?_⟩
    cases i with
    | zero =>
      have e : atZ (p :: o) ((0 : Nat) : Int) = p := by simp [atZ]
      rw [e]
      exact (Tied.perm (q1.filter _)).mpr (List.Pairwise.sublist (out_sub.filter _) h2)
    | succ i =>
      have e : atZ (p :: o) ((i + 1 : Nat) : Int) = atZ o i := by simp [atZ]
      rw [e]
      exact q2 i (by simpa using hi)
def FirstM (F : List (List Int)) (s : List Int) : Prop := ∃ pre suf, F = pre ++ s :: suf ∧ (∀ t ∈ pre, t.length < s.length) ∧ ∀ t ∈ suf, t.length ≤ s.length
theorem FirstM.one {F : List (List Int)} {s t : List Int} : FirstM F s → FirstM F t → s = t := by
  rintro ⟨p, q, rfl, h1, h2⟩ ⟨p', q', e, h3, h4⟩
  rcases List.append_eq_append_iff.mp e with ⟨c, rfl, e2⟩ | ⟨c, rfl, e2⟩
  · cases c with
    | nil => exact (List.cons.inj (by simpa using e2)).1
    | cons x c =>
      obtain ⟨rfl, rfl⟩ := List.cons.inj e2
      have := h3 s (by simp)
      have := h2 t (by simp)
      omega
  · cases c with
    | nil => exact (List.cons.inj (by simpa using e2.symm)).1
    | cons x c =>
      obtain ⟨rfl, rfl⟩ := List.cons.inj e2
      have := h1 t (by simp)
      have := h4 s (by simp)
      omega
theorem filter_first {F : List (List Int)} {m : Int} {s : List Int} {r : List (List Int)} (hm : ∀ t ∈ F, ((t.length : Nat) : Int) ≤ m) (e : F.filter (fun t => decide (((t.length : Nat) : Int) = m)) = s :: r) : FirstM F s := by
  induction F with
  | nil => cases e
  | cons a F ih =>
    by_cases h : ((a.length : Nat) : Int) = m
    · rw [List.filter_cons_of_pos (by simp [h])] at e
      obtain ⟨rfl, _⟩ := List.cons.inj e
      exact ⟨[], F, rfl, fun t ht => (nomatch ht), fun t ht => by have := hm t (List.mem_cons_of_mem _ ht); omega⟩
    · rw [List.filter_cons_of_neg (by simp [h])] at e
      have hs : s ∈ F.filter (fun t => decide (((t.length : Nat) : Int) = m)) := by rw [e]; exact List.mem_cons_self
      have hs := of_decide_eq_true (List.mem_filter.mp hs).2
      obtain ⟨pre, suf, rfl, h1, h2⟩ := ih (fun t ht => hm t (List.mem_cons_of_mem _ ht)) e
      refine ⟨a :: pre, suf, rfl, fun t ht => ?_, h2⟩
      rcases List.mem_cons.mp ht with rfl | ht
      · have := hm t List.mem_cons_self; omega
      · exact h1 t ht
theorem first_greatest2_ok {F : List (List Int)} (hne : F ≠ []) (hl : F.length ≤ 1024) (hs : ∀ s ∈ F, s.length ≤ 10) {X : XF} {Q : R → S → Prop} (h : ∀ s fin, FirstM F s → Q (.d (tupI s)) fin) : m_first_greatest [.d (.list (F.map tupI))] X Q := by
  unfold m_first_greatest b_first_greatest
  refine st_sem rfl ?_
  array_get_dec
  refine ⟨by rw [List.length_map]; show _ ≤ 16777216; omega, ?_⟩
  array_get_dec
  refine comp_list tupI (fun s => .int (s.length : Nat)) _ (fun s hs2 kT hkT => ?_) ?_
  · rw [show tupI s = PyData.tuple (s.map .int) from rfl]
    array_get_dec
    rw [List.length_map]
    exact hkT
  · array_get_dec
    rw [show F.map (fun s => PyData.int (s.length : Nat)) = (F.map fun s => ((s.length : Nat) : Int)).map PyData.int by rw [List.map_map]; rfl]
    show (match intsOf ((F.map fun s => ((s.length : Nat) : Int)).map PyData.int) with
      | some ns => 0 < ns.length ∧ ∀ m, m ∈ ns → (∀ y, y ∈ ns → y ≤ m) → _
      | none => False)
    rw [intsOf_map']
    refine ⟨by rw [List.length_map]; exact List.length_pos_iff.mpr hne, fun m hm hy => ?_⟩
    obtain ⟨b, hb, rfl⟩ := List.mem_map.mp hm
    array_get_dec
    refine ⟨by rw [List.length_map]; show _ ≤ 16777216; omega, ?_⟩
    array_get_dec
    refine comp_filter tupI tupI (fun s => decide (((s.length : Nat) : Int) = ((b.length : Nat) : Int))) _ (fun s hs2 kT kF hT hF => ?_) ?_
    · rw [show tupI s = PyData.tuple (s.map .int) from rfl]
      array_get_dec
      rw [List.length_map]
      refine st_ite (fun q => ?_) (fun q => ?_)
      · array_get_dec
        exact hT q
      · exact hF q
    · array_get_dec
      cases e : F.filter (fun s => decide (((s.length : Nat) : Int) = ((b.length : Nat) : Int))) with
      | nil =>
        have : b ∈ F.filter (fun s => decide (((s.length : Nat) : Int) = ((b.length : Nat) : Int))) := List.mem_filter.mpr ⟨hb, decide_eq_true rfl⟩
        rw [e] at this
        cases this
      | cons s r =>
        rw [List.map_cons]
        refine st_ix_l (x := tupI s) (L2.atI_nat (j := 0) rfl) ?_
        array_get_dec
        exact h s _ (filter_first (fun t ht => hy _ (List.mem_map.mpr ⟨t, ht, rfl⟩)) e)
theorem greatest_crowd2_ok {n : Int} {ts : List (Int × Int)} (g : Good n ts) {X : XF} {Q : R → S → Prop} (h : ∀ s fin, FirstM (fulls true n ts) s → Q (.d (tupI s)) fin) : m_greatest_crowd [.d (webD n ts)] X Q := by
  unfold m_greatest_crowd b_greatest_crowd
  refine st_sem rfl ?_
  array_get_dec
  refine need_web_ok g fun fin => ?_
  array_get_dec
  unfold m_greatest_crowd_in b_greatest_crowd_in
  refine st_sem rfl ?_
  array_get_dec
  refine full_crowds_in_ok g fun fin => ?_
  array_get_dec
  refine first_greatest2_ok (fulls_ne g) (fulls_len g) (fulls_short g) fun s fin h1 => ?_
  array_get_dec
  exact h s _ h1
def AgB (ts : List (Int × Int)) (w : Bool) (ls : List Int) : Prop := ls.Pairwise fun a b => Tb ts a b = w
theorem prs_ag {ts : List (Int × Int)} {w : Bool} : ∀ {ls : List Int}, ((prs ls).all fun p => Tb ts p.1 p.2 == w) = dec (AgB ts w ls)
  | [] => by rw [dec_t (show AgB ts w [] from .nil)]; rfl
  | k :: ls => by
    have ih := prs_ag (ts := ts) (w := w) (ls := ls)
    unfold prs
    rw [List.all_append, ih, List.all_map]
    by_cases h : AgB ts w (k :: ls)
    · obtain ⟨h1, h2⟩ := List.pairwise_cons.mp h
      rw [dec_t h, dec_t (show AgB ts w ls from h2), Bool.and_true]
      exact List.all_eq_true.mpr fun z hz => by simpa using h1 z hz
    · rw [dec_f h]
      by_cases h2 : AgB ts w ls
      · rw [dec_t h2, Bool.and_true]
        by_cases h1 : ∀ z ∈ ls, Tb ts k z = w
        · exact (h (List.pairwise_cons.mpr ⟨h1, h2⟩)).elim
        · refine List.all_eq_false.mpr ?_
          obtain ⟨z, hz⟩ := Classical.not_forall.mp h1
          obtain ⟨hz, hq⟩ := Classical.not_imp.mp hz
          exact ⟨z, hz, by simpa using hq⟩
      · rw [dec_f h2, Bool.and_false]
theorem prs_ct {ts : List (Int × Int)} {ls : List Int} : ((prs ls).all fun p => Tb ts p.1 p.2) = dec (AgB ts true ls) := by
  rw [← prs_ag]
  congr 1
  funext p
  simp
theorem is_crowd_in_ok {n : Int} {ts : List (Int × Int)} {ks : List Int} (hl : ks.length ≤ 100) {X : XF} {Q : R → S → Prop} (h : ∀ fin, Q (.d (.bool (dec (AgB ts true ks)))) fin) : m_is_crowd_in [.d (webD n ts), .d (.tuple (ks.map .int))] X Q := by
  unfold m_is_crowd_in b_is_crowd_in
  have pl := prs_len ks
  have pl2 : ks.length * ks.length ≤ 100 * 100 := Nat.mul_le_mul hl hl
  refine st_sem rfl ?_
  array_get_dec
  refine pairs_of_ok hl fun fin => ?_
  array_get_dec
  refine ⟨by rw [List.length_map]; show _ ≤ 16777216; omega, ?_⟩
  array_get_dec
  refine comp_list pairD (fun p => .bool (Tb ts p.1 p.2)) _ (fun p hp kT hkT => ?_) ?_
  · array_get_dec
    refine tied_in_ok fun fin => ?_
    array_get_dec
    exact hkT
  · array_get_dec
    refine st_all_map ?_
    array_get_dec
    rw [prs_ct]
    exact h _
theorem is_crowd_ok {n : Int} {ts : List (Int × Int)} {ks : List Int} (g : Good n ts) (hs : Set' n ks) {X : XF} {Q : R → S → Prop} (h : ∀ fin, Q (.d (.bool (dec (AgB ts true ks)))) fin) : m_is_crowd [.d (webD n ts), .d (.tuple (ks.map .int))] X Q := by
  unfold m_is_crowd b_is_crowd
  have few := hs.few g.n10
  refine st_sem rfl ?_
  array_get_dec
  refine need_web_ok g fun fin => ?_
  array_get_dec
  refine need_set_ok hs g.n10 fun fin => ?_
  array_get_dec
  refine is_crowd_in_ok (by omega) fun fin => ?_
  array_get_dec
  exact h _
theorem range_sub_le {c : Nat} {l : List Int} (h : ∀ x : Int, 0 ≤ x → x < c → x ∈ l) : c ≤ l.length := by
  have := nodup_le (l := rangeI c) (m := l) range_nd fun z hz => h z (rangeI_mem.mp hz).1 (rangeI_mem.mp hz).2
  rwa [rangeI_len] at this
theorem least_unlike_ok {ks : List Int} (hl : ks.length ≤ 1000) {X : XF} {Q : R → S → Prop} (h : ∀ (c : Int) fin, 0 ≤ c → c ≤ ks.length → c ∉ ks → Q (.d (.int c)) fin) : m_least_unlike [.d (.list (ks.map .int))] X Q := by
  unfold m_least_unlike b_least_unlike
  refine st_sem rfl ?_
  array_get_dec
  refine loop_while (fun m s => ∃ c : Nat, s = [.d (.list (ks.map .int)), .d (.int (c : Int))] ∧ (∀ x : Int, 0 ≤ x → x < c → x ∈ ks) ∧ m = ks.length - c) ?_ _ ⟨0, rfl, fun x h1 h2 => by omega, rfl⟩
  rintro m s k ⟨c, rfl, hc, rfl⟩ hk
  have hcl := range_sub_le hc
  array_get_dec
  refine st_ite (fun q => ?_) (fun q => ?_)
  · have q : (c : Int) ∈ ks := by simpa using q
    have hc' : ∀ x : Int, 0 ≤ x → x < ((c + 1 : Nat) : Int) → x ∈ ks := fun x h1 h2 => by
      by_cases e : x = c
      · rw [e]; exact q
      · exact hc x h1 (by omega)
    have hcl' := range_sub_le hc'
    array_get_dec
    exact hk _ _ (by omega) ⟨c + 1, by rw [show ((c + 1 : Nat) : Int) = (c : Int) + 1 by omega]; rfl, hc', rfl⟩
  · have q : (c : Int) ∉ ks := by simpa using q
    array_get_dec
    exact h c _ (by omega) (by omega) q
/-- the neighbours behind -/
def bh (ts : List (Int × Int)) (o : List Int) (i : Nat) : List Int := (o.drop (i + 1)).filter (Tb ts (atZ o i))
theorem bh_mem {ts : List (Int × Int)} {o : List Int} {i : Nat} {z : Int} (h : z ∈ bh ts o i) : z ∈ o.drop (i + 1) ∧ Tb ts (atZ o i) z = true := List.mem_filter.mp h
theorem bh_len {ts : List (Int × Int)} {o : List Int} {i : Nat} : (bh ts o i).length ≤ o.length := by
  unfold bh
  have := List.length_filter_le (Tb ts (atZ o i)) (o.drop (i + 1))
  rw [List.length_drop] at this
  omega
theorem drop_at {o : List Int} {i : Nat} (h : i < o.length) : o.drop i = atZ o i :: o.drop (i + 1) := by
  rw [List.drop_eq_getElem_cons h]
  simp [atZ, List.getElem?_eq_getElem h]
theorem hues_behind_ok {n : Int} {ts : List (Int × Int)} {o : List Int} (g : Good n ts) (hp : o.Perm (rangeI n.toNat)) {X : XF} {Q : R → S → Prop}
    (h : ∀ (hue : Int → Int) fin, (∀ z, 0 ≤ z → z < n → 0 ≤ hue z) → (∀ i : Nat, i < o.length → hue (atZ o i) ≤ (bh ts o i).length) → (∀ x y, 0 ≤ x → x < n → 0 ≤ y → y < n → x ≠ y → Tb ts x y = true → hue x ≠ hue y) → Q (.d (.tuple ((rangeI n.toNat).map fun z => .int (hue z)))) fin) :
    m_hues_behind [.d (webD n ts), .d (.tuple (o.map .int))] X Q := by
  unfold m_hues_behind b_hues_behind
  have n0 := g.n0
  have n10 := g.n10
  have hol : o.length = n.toNat := by rw [hp.length_eq, rangeI_len]
  have hnd : o.Nodup := hp.nodup_iff.mpr range_nd
  refine st_sem rfl ?_
  array_get_dec
  rw [List.length_map]
  refine ⟨rfl, by unfold lim62; omega, by unfold lim62; omega, ?_⟩
  array_get_dec
  rw [show ((o.length : Int) - 1 - -1).toNat = o.length by omega]
  unfold downD
  refine loop_nat (fun k s => ∃ (kvs : List (D × D)) (A : Int → Option D) (hue : Int → Int), s = [.d (webD n ts), .d (.tuple (o.map .int)), .dc kvs, .no, .no, .no] ∧ DIs kvs A ∧ kvs.length ≤ k ∧ (∀ z ∈ o.drop (o.length - k), A z = some (.int (hue z)) ∧ 0 ≤ hue z) ∧
    (∀ i : Nat, i < o.length → o.length - k ≤ i → hue (atZ o i) ≤ (bh ts o i).length) ∧ ∀ x ∈ o.drop (o.length - k), ∀ y ∈ o.drop (o.length - k), x ≠ y → Tb ts x y = true → hue x ≠ hue y) ?_ ?_ ⟨[], _, fun _ => 0, rfl, DIs.nil, Nat.le_refl _, fun z hz => ?_, fun i h1 h2 => by omega, fun x hx => ?_⟩
  · rintro s ⟨kvs, A, hue, rfl, hA, _, h1, h2, h3⟩
    rw [Nat.sub_self, List.drop_zero] at h1 h3
    have inn : ∀ z, 0 ≤ z → z < n → z ∈ o := fun z z0 z1 => hp.mem_iff.mpr (rangeI_mem.mpr ⟨z0, by omega⟩)
    array_get_dec
    refine all_places_ok g fun fin => ?_
    array_get_dec
    refine ⟨by rw [List.length_map, rangeI_len]; show _ ≤ 16777216; omega, ?_⟩
    array_get_dec
    refine comp_list PyData.int (fun z => .int (hue z)) _ (fun z hz kT hkT => ?_) ?_
    · have := rangeI_mem.mp hz
      array_get_dec
      refine st_ix2_I hA (h1 z (inn z this.1 (by omega))).1 ?_
      array_get_dec
      exact hkT
    · array_get_dec
      exact h hue _ (fun z z0 z1 => (h1 z (inn z z0 z1)).2) (fun i hi => h2 i hi (by omega)) fun x y x0 x1 y0 y1 => h3 x (inn x x0 x1) y (inn y y0 y1)
  · rintro k s kk hk ⟨kvs, A, hue, rfl, hA, hkl, h1, h2, h3⟩ hkk
    obtain ⟨i, hi⟩ : ∃ i : Nat, i = o.length - (k + 1) := ⟨_, rfl⟩
    have hil : i < o.length := by omega
    have ei : (o.length : Int) - 1 - (k : Int) = (i : Int) := by omega
    have ed : o.length - k = i + 1 := by omega
    rw [ed] at h1 h2 h3
    rw [ei]
    have hin : atZ o i ∈ o := atZ_in hil
    array_get_dec
    refine behind_in_ok (by omega) hil fun ms fin hms => ?_
    array_get_dec
    have hml : ms.length = (bh ts o i).length := hms.length_eq
    have hbl := bh_len (ts := ts) (o := o) (i := i)
    refine ⟨by rw [List.length_map]; show _ ≤ 16777216; omega, ?_⟩
    array_get_dec
    refine comp_list PyData.int (fun z => .int (hue z)) _ (fun z hz kT hkT => ?_) ?_
    · have hz2 := bh_mem (hms.mem_iff.mp hz)
      array_get_dec
      refine st_ix2_I hA (h1 z hz2.1).1 ?_
      array_get_dec
      exact hkT
    · array_get_dec
      rw [show (ms.map fun z => PyData.int (hue z)) = (ms.map hue).map PyData.int by rw [List.map_map]; rfl]
      refine least_unlike_ok (by rw [List.length_map]; omega) fun c fin c0 cl cn => ?_
      rw [List.length_map] at cl
      array_get_dec
      refine st_ix_t (atZ_ok (by omega) (by omega)) ?_
      array_get_dec
      refine hA.dPut (by show _ < 16777216; omega) fun kvs2 hA2 hl2 => ?_
      array_get_dec
      have hdr := drop_at hil
      have hnin : atZ o i ∉ o.drop (i + 1) := fun hm => by
        have := hnd.sublist (List.drop_sublist i o)
        rw [hdr] at this
        exact (List.nodup_cons.mp this).1 hm
      refine hkk _ ⟨kvs2, _, fun z => if z = atZ o i then c else hue z, rfl, hA2, by omega, ?_, fun j hj hij => ?_, ?_⟩
      · rw [← hi, hdr]
        intro z hz
        rcases List.mem_cons.mp hz with rfl | hz
        · simp [c0]
        · have ne : z ≠ atZ o i := fun e => hnin (by rw [← e]; exact hz)
          simp only [if_neg ne]
          exact h1 z hz
      · show (if atZ o j = atZ o i then c else hue (atZ o j)) ≤ _
        by_cases e : j = i
        · subst e
          rw [if_pos rfl]
          omega
        · have ne : atZ o j ≠ atZ o i := fun e2 => (nodup_atZ.mp hnd j i (by omega) hj) e2.symm
          rw [if_neg ne]
          exact h2 j hj (by omega)
      · rw [← hi, hdr]
        have key : ∀ y ∈ o.drop (i + 1), Tb ts (atZ o i) y = true → c ≠ hue y := fun y hy ht e => cn (by
          rw [e]
          exact List.mem_map.mpr ⟨y, hms.mem_iff.mpr (List.mem_filter.mpr ⟨hy, ht⟩), rfl⟩)
        intro x hx y hy hxy ht
        rcases List.mem_cons.mp hx with rfl | hx
        · rcases List.mem_cons.mp hy with rfl | hy
          · exact (hxy rfl).elim
          · have ne : y ≠ atZ o i := fun e => hxy e.symm
            simp only [if_neg ne, if_true]
            exact key y hy ht
        · have nx : x ≠ atZ o i := fun e => hnin (by rw [← e]; exact hx)
          rcases List.mem_cons.mp hy with rfl | hy
          · simp only [if_neg nx, if_true]
            exact fun e => key x hx (by rw [Tb_symm]; exact ht) e.symm
          · have ny : y ≠ atZ o i := fun e => hnin (by rw [← e]; exact hy)
            simp only [if_neg nx, if_neg ny]
            exact h3 x hx y hy hxy ht
  · simp at hz
  · simp at hx
theorem greatest_of_fold_ok {n : Int} {ts : List (Int × Int)} {o : List Int} (g : Good n ts) (hp : o.Perm (rangeI n.toNat)) (ht : ∀ i : Nat, i < o.length → Tied ts (bh ts o i)) {X : XF} {Q : R → S → Prop}
    (h : ∀ (c : List Int) fin, Set' n c → Tied ts c → (∀ i : Nat, i < o.length → (bh ts o i).length < c.length) → Q (.d (.tuple (c.map .int))) fin) : m_greatest_of_fold [.d (webD n ts), .d (.tuple (o.map .int))] X Q := by
  unfold m_greatest_of_fold b_greatest_of_fold
  have n0 := g.n0
  have n10 := g.n10
  have hol : o.length = n.toNat := by rw [hp.length_eq, rangeI_len]
  have hnd : o.Nodup := hp.nodup_iff.mpr range_nd
  refine st_sem rfl ?_
  array_get_dec
  rw [enum_ints']
  refine loop_nat (fun i s => ∃ c : List Int, s = [.d (webD n ts), .d (.tuple (o.map .int)), .d (.tuple (c.map .int)), .no, .no, .no] ∧ Set' n c ∧ Tied ts c ∧ ∀ j : Nat, j < i → (bh ts o j).length < c.length) ?_ ?_ ⟨[], rfl, ⟨.nil, fun z hz => (nomatch hz)⟩, .nil, fun j h => by omega⟩
  · rintro s ⟨c, rfl, h1, h2, h3⟩
    array_get_dec
    exact h c _ h1 h2 h3
  · rintro i s k hi ⟨c, rfl, h1, h2, h3⟩ hk
    have hbl := bh_len (ts := ts) (o := o) (i := i)
    have hin : atZ o i ∈ o := atZ_in hi
    array_get_dec
    refine behind_in_ok (by omega) hi fun ms fin hms => ?_
    array_get_dec
    have hml : ms.length = (bh ts o i).length := hms.length_eq
    refine st_add_t ?_ ?_
    · rw [List.length_map]; show ms.length + 1 ≤ 16777216; omega
    rw [show ms.map PyData.int ++ [PyData.int (atZ o i)] = (ms ++ [atZ o i]).map PyData.int by simp]
    array_get_dec
    refine st_sort_it fun cs hcp hcs => ?_
    array_get_dec
    have hdr := drop_at hi
    have hnd2 := hnd.sublist (List.drop_sublist i o)
    rw [hdr] at hnd2
    have memc : ∀ z, z ∈ cs ↔ z ∈ bh ts o i ∨ z = atZ o i := fun z => by rw [hcp.mem_iff, List.mem_append, List.mem_singleton, hms.mem_iff]; rfl
    have cnd : cs.Nodup := by
      refine hcp.nodup_iff.mpr (List.nodup_append.mpr ⟨hms.nodup_iff.mpr ((List.nodup_cons.mp hnd2).2.filter _), by simp, fun a ha b hb e => ?_⟩)
      rw [List.mem_singleton.mp hb] at e
      have := (bh_mem (hms.mem_iff.mp ha)).1
      rw [e] at this
      exact (List.nodup_cons.mp hnd2).1 this
    have cset : Set' n cs := ⟨(List.Pairwise.and hcs cnd).imp fun {a b} h => by
      have h1 := h.1
      have h2 : a ≠ b := h.2
      omega, fun z hz => by
      have : z ∈ o := by
        rcases (memc z).mp hz with hz | hz
        · exact List.mem_of_mem_drop (bh_mem hz).1
        · rw [hz]; exact hin
      have := rangeI_mem.mp (hp.mem_iff.mp this)
      omega⟩
    have cl : cs.length = (bh ts o i).length + 1 := by rw [hcp.length_eq, List.length_append, hml]; rfl
    have ctied : Tied ts cs := by
      refine (Tied.perm hcp).mpr (List.pairwise_append.mpr ⟨(Tied.perm hms).mpr (ht i hi), by simp, fun a ha b hb => ?_⟩)
      rw [List.mem_singleton.mp hb, Tb_symm]
      exact (bh_mem (hms.mem_iff.mp ha)).2
    rw [List.length_map, List.length_map]
    refine st_ite (fun q => ?_) (fun q => ?_)
    · have q := of_decide_eq_true q
      array_get_dec
      refine hk _ ⟨cs, rfl, cset, ctied, fun j hj => ?_⟩
      by_cases e : j = i
      · subst e; omega
      · have := h3 j (by omega); omega
    · have q := of_decide_eq_false q
      array_get_dec
      refine hk _ ⟨c, rfl, h1, h2, fun j hj => ?_⟩
      by_cases e : j = i
      · subst e; omega
      · exact h3 j (by omega)
theorem by_fold_ok {n : Int} {ts : List (Int × Int)} (g : Good n ts) {X : XF} {Q : R → S → Prop}
    (q0 : ∀ o (hue : Int → Int) (c : List Int) fin, Steps ts (rangeI n.toNat) o [] → (∀ z, 0 ≤ z → z < n → 0 ≤ hue z ∧ hue z < c.length) → (∀ x y, 0 ≤ x → x < n → 0 ≤ y → y < n → x ≠ y → Tb ts x y = true → hue x ≠ hue y) → Set' n c → Tied ts c →
      Q (.d (.tuple [.int c.length, .tuple ((rangeI n.toNat).map fun z => .int (hue z)), .tuple (c.map .int)])) fin)
    (q1 : ∀ o M fin, Steps ts (rangeI n.toNat) o M → Stuck ts M → M ≠ [] → X "NoFold" fin) : m_by_fold [.d (webD n ts)] X Q := by
  unfold m_by_fold b_by_fold
  refine st_sem rfl ?_
  array_get_dec
  refine fold_ok g (fun o fin hs => ?_) (fun o M r fin h1 h2 h3 h4 h5 h6 => ?_)
  · obtain ⟨hp, ht⟩ := hs.order range_nd
    array_get_dec
    refine hues_behind_ok g hp fun hue fin k1 k2 k3 => ?_
    array_get_dec
    refine greatest_of_fold_ok g hp ht fun c fin c1 c2 c3 => ?_
    array_get_dec
    rw [List.length_map]
    refine q0 o hue c _ hs (fun z z0 z1 => ⟨k1 z z0 z1, ?_⟩) k3 c1 c2
    obtain ⟨j, hj, e⟩ := List.mem_iff_getElem.mp (hp.mem_iff.mpr (rangeI_mem.mpr ⟨z0, by have := g.n0; omega⟩) : z ∈ o)
    have e2 : atZ o (j : Int) = z := by simp [atZ, List.getElem?_eq_getElem hj, e]
    have a1 := k2 j hj
    have a2 := c3 j hj
    rw [e2] at a1
    omega
  · array_get_dec
    exact q1 o M _ h1 h2 h3
theorem is_order_ok {n : Int} {ts : List (Int × Int)} {ks : List Int} (g : Good n ts) (hl : ks.length ≤ 30) {X : XF} {Q : R → S → Prop} (h : ∀ fin, Q (.d (.bool (dec (ks.Perm (rangeI n.toNat))))) fin) : m_is_order [.d (webD n ts), .d (.tuple (ks.map .int))] X Q := by
  unfold m_is_order b_is_order
  refine st_sem rfl ?_
  array_get_dec
  refine ⟨by rw [List.length_map]; show _ ≤ 16777216; omega, ?_⟩
  array_get_dec
  refine comp_list PyData.int (fun _ => .bool true) _ (fun z hz kT hkT => ?_) ?_
  · array_get_dec
    exact hkT
  · array_get_dec
    refine st_all_map (b := fun _ => true) ?_
    rw [show (ks.all fun _ => true) = true by simp]
    array_get_dec
    refine st_sort_it fun ms hp hs => ?_
    array_get_dec
    refine all_places_ok g fun fin => ?_
    array_get_dec
    refine st_eq_ll ?_
    rw [sorted_range hp hs]
    array_get_dec
    exact h _
noncomputable def foldB (n : Int) (ts : List (Int × Int)) (ks : List Int) : Bool := dec (ks.Perm (rangeI n.toNat)) && (rangeI ks.length).all fun a => dec (Tied ts ((ks.drop (a.toNat + 1)).filter (Tb ts (atZ ks a))))
theorem is_fold_ok {n : Int} {ts : List (Int × Int)} {ks : List Int} (g : Good n ts) (hl : ks.length ≤ 30) {X : XF} {Q : R → S → Prop} (h : ∀ fin, Q (.d (.bool (foldB n ts ks))) fin) : m_is_fold [.d (webD n ts), .d (.tuple (ks.map .int))] X Q := by
  unfold m_is_fold b_is_fold
  unfold foldB at h
  refine st_sem rfl ?_
  array_get_dec
  refine need_web_ok g fun fin => ?_
  array_get_dec
  refine is_order_ok g hl fun fin => ?_
  by_cases hP : ks.Perm (rangeI n.toNat)
  · rw [dec_t hP] at h ⊢
    array_get_dec
    rw [List.length_map]
    refine ⟨by unfold lim62; omega, ?_⟩
    refine ⟨by rw [rangeD_len]; show _ ≤ 16777216; omega, ?_⟩
    array_get_dec
    rw [rangeD_map, Int.toNat_natCast]
    refine comp_list PyData.int (fun a => .bool (dec (Tied ts ((ks.drop (a.toNat + 1)).filter (Tb ts (atZ ks a)))))) _ (fun z hz kT hkT => ?_) ?_
    · obtain ⟨z0, z1⟩ := rangeI_mem.mp hz
      obtain ⟨a, rfl⟩ := Int.eq_ofNat_of_zero_le z0
      array_get_dec
      refine behind_in_ok (by omega) (by omega) fun ms fin hp => ?_
      array_get_dec
      have ml : ms.length ≤ 100 := by
        rw [hp.length_eq]
        have := List.length_filter_le (Tb ts (atZ ks (a : Int))) (ks.drop (a + 1))
        rw [List.length_drop] at this
        omega
      refine is_crowd_in_ok ml fun fin => ?_
      rw [show AgB ts true ms = Tied ts ms from rfl, propext (Tied.perm (ts := ts) hp)]
      array_get_dec
      exact hkT
    · array_get_dec
      refine st_all_map ?_
      array_get_dec
      exact h _
  · rw [dec_f hP] at h ⊢
    array_get_dec
    exact h _
def Pok (ts : List (Int × Int)) (ks : List Int) (i j : Nat) : Prop := (min (atZ ks i) (atZ ks j), max (atZ ks i) (atZ ks j)) ∈ ts ↔ ((i : Int) - j = 1 ∨ (i : Int) - j = ks.length - 1)
def RingP (ts : List (Int × Int)) (ks : List Int) : Prop := ∀ i j : Nat, j < i → i < ks.length → Pok ts ks i j
def BareP (n : Int) (ts : List (Int × Int)) (ks : List Int) : Prop := 4 ≤ ks.length ∧ (∀ z ∈ ks, 0 ≤ z ∧ z < n) ∧ ks.Nodup ∧ RingP ts ks
theorem is_tied_as_ring_ok {n : Int} {ts : List (Int × Int)} {ks : List Int} (hl : ks.length ≤ 1000) {X : XF} {Q : R → S → Prop} (h : ∀ fin, Q (.d (.bool (dec (RingP ts ks)))) fin) : m_is_tied_as_ring [.d (webD n ts), .d (.list (ks.map .int))] X Q := by
  unfold m_is_tied_as_ring b_is_tied_as_ring
  refine st_sem rfl ?_
  array_get_dec
  rw [enum_ints']
  refine loop_nat (fun i s => s = [.d (webD n ts), .d (.list (ks.map .int)), .no, .no, .no, .no] ∧ ∀ a b : Nat, b < a → a < i → Pok ts ks a b) ?_ ?_ ⟨rfl, fun a b _ h => by omega⟩
  · rintro s ⟨rfl, ha⟩
    array_get_dec
    rw [dec_t (show RingP ts ks from ha)] at h
    exact h _
  · rintro i s k hi ⟨rfl, ha⟩ hk
    array_get_dec
    rw [cut_to, enum_ints (by omega)]
    refine loop_nat (fun j s => s = [.d (webD n ts), .d (.list (ks.map .int)), .d (.int i), .d (.int (atZ ks i)), .no, .no] ∧ ∀ b : Nat, b < j → Pok ts ks i b) ?_ ?_ ⟨rfl, fun b h => by omega⟩
    · rintro s ⟨rfl, hb⟩
      refine hk _ ⟨rfl, fun a b h1 h2 => ?_⟩
      by_cases e : a = i
      · subst e; exact hb b h1
      · exact ha a b h1 (by omega)
    · rintro j s k2 hj ⟨rfl, hb⟩ hk2
      array_get_dec
      refine tied_in_ok fun fin => ?_
      array_get_dec
      have key : (∀ c : Bool, c = decide ((i : Int) - j = 1 ∨ (i : Int) - j = ks.length - 1) → if (!(decide ((min (atZ ks i) (atZ ks j), max (atZ ks i) (atZ ks j)) ∈ ts) == c)) = true then Q (.d (.bool false)) [.d (webD n ts), .d (.list (ks.map .int))] else k2 [.d (webD n ts), .d (.list (ks.map .int)), .d (.int i), .d (.int (atZ ks i)), .no, .no]) := by
        rintro c rfl
        refine st_ite (fun q => ?_) (fun q => ?_)
        · have hn : ¬ RingP ts ks := fun hr => by
            have := hr i j hj hi
            unfold Pok at this
            simp [this] at q
          rw [dec_f hn] at h
          exact h _
        · refine hk2 _ ⟨rfl, fun b hb2 => ?_⟩
          by_cases e : b = j
          · subst e
            unfold Pok
            simp at q
            rw [← Bool.decide_or, decide_eq_decide] at q
            exact q
          · exact hb b (by omega)
      refine st_ite (fun q => ?_) (fun q => ?_)
      · have q := of_decide_eq_true q
        array_get_dec
        exact key true (by simp [q])
      · have q := of_decide_eq_false q
        array_get_dec
        exact key _ (by simp [q])
theorem nodup_all {ks : List Int} {m : Nat} (e : m = ks.length) : ((rangeI m).all fun z => !decide (atZ ks z ∈ ks.take z.toNat)) = decide ks.Nodup := by
  subst e
  apply Bool.eq_iff_iff.mpr
  simp only [List.all_eq_true, Bool.not_eq_true', decide_eq_false_iff_not, decide_eq_true_eq]
  rw [nodup_atZ]
  constructor
  · intro h a b hb ha e
    refine h a (rangeI_mem.mpr ⟨by omega, by omega⟩) ?_
    exact (mem_take_atZ (by omega)).mpr ⟨b, by omega, e⟩
  · intro h z hz hm
    obtain ⟨h0, h1⟩ := rangeI_mem.mp hz
    obtain ⟨a, rfl⟩ := Int.eq_ofNat_of_zero_le h0
    obtain ⟨j, hj, e⟩ := (mem_take_atZ (by omega)).mp hm
    exact h a j (by omega) (by omega) e
theorem is_bare_ring_ok {n : Int} {ts : List (Int × Int)} {ks : List Int} (g : Good n ts) (hl : ks.length ≤ 1000) {X : XF} {Q : R → S → Prop} (h : ∀ fin, Q (.d (.bool (dec (BareP n ts ks)))) fin) : m_is_bare_ring [.d (webD n ts), .d (.list (ks.map .int))] X Q := by
  unfold m_is_bare_ring b_is_bare_ring
  refine st_sem rfl ?_
  array_get_dec
  refine need_web_ok g fun fin => ?_
  array_get_dec
  rw [List.length_map]
  refine st_ite (fun q => ?_) (fun q => ?_)
  · have q := of_decide_eq_true q
    array_get_dec
    rw [dec_f (fun hb => by have := hb.1; omega)] at h
    exact h _
  · have q := of_decide_eq_false q
    array_get_dec
    refine ⟨by rw [List.length_map]; show _ ≤ 16777216; omega, ?_⟩
    array_get_dec
    refine comp_list PyData.int (fun z => .bool (decide (0 ≤ z ∧ z < n))) _ (fun z hz kT hkT => ?_) ?_
    · array_get_dec
      refine is_below_ok fun fin => ?_
      array_get_dec
      exact hkT
    · array_get_dec
      refine st_all_map ?_
      array_get_dec
      refine st_ite (fun q2 => ?_) (fun q2 => ?_)
      · array_get_dec
        rw [dec_f (fun hb => by
          have hall : (ks.all fun z => decide (0 ≤ z ∧ z < n)) = true := List.all_eq_true.mpr fun z hz => decide_eq_true (hb.2.1 z hz)
          rw [hall] at q2; cases q2)] at h
        exact h _
      · have hall : ∀ z ∈ ks, 0 ≤ z ∧ z < n := by simpa using q2
        array_get_dec
        rw [List.length_map]
        refine ⟨by unfold lim62; omega, ?_⟩
        array_get_dec
        refine ⟨by rw [rangeD_len]; show _ ≤ 16777216; omega, ?_⟩
        array_get_dec
        rw [rangeD_map]
        refine comp_list PyData.int (fun z => .bool (!decide (atZ ks z ∈ ks.take z.toNat))) _ (fun z hz kT hkT => ?_) ?_
        · obtain ⟨h0, h1⟩ := rangeI_mem.mp hz
          obtain ⟨a, rfl⟩ := Int.eq_ofNat_of_zero_le h0
          array_get_dec
          refine st_ix_l (atZ_ok h0 (by omega)) ?_
          array_get_dec
          rw [cut_to]
          array_get_dec
          exact hkT
        · array_get_dec
          refine st_all_map ?_
          rw [nodup_all (by simp)]
          array_get_dec
          refine st_ite (fun q3 => ?_) (fun q3 => ?_)
          · array_get_dec
            rw [dec_f (fun hb => by rw [decide_eq_true hb.2.2.1] at q3; cases q3)] at h
            exact h _
          · have hn : ks.Nodup := by simpa using q3
            array_get_dec
            refine is_tied_as_ring_ok hl fun fin => ?_
            array_get_dec
            rw [show dec (BareP n ts ks) = dec (RingP ts ks) by
              by_cases hr : RingP ts ks
              · rw [dec_t hr, dec_t (show BareP n ts ks from ⟨by omega, hall, hn, hr⟩)]
              · rw [dec_f hr, dec_f (fun hb : BareP n ts ks => hr hb.2.2.2)]] at h
            exact h _
end Lk18
namespace Lk18
open PySem Hs
local macro_rules
  | `(tactic| sizeOf_list_dec) => `(tactic| first
    | with_reducible refine st_seq ?_ | with_reducible refine st_asg ?_ | with_reducible refine st_cons ?_ | with_reducible refine st_nil ?_ | with_reducible refine st_C ?_ | with_reducible refine st_op ?_
    | with_reducible refine st_var_d ?_ | with_reducible refine st_var_l ?_ | with_reducible refine st_var_ll ?_ | with_reducible refine st_var_dc ?_
    | with_reducible refine st_look_d ?_ | with_reducible refine st_look_top ?_ | with_reducible refine st_look_top_d ?_ | with_reducible refine st_look_own ?_ | with_reducible refine st_look_top_dc ?_ | with_reducible refine st_look_own_dc ?_ | with_reducible refine st_put_d ?_ | with_reducible refine st_put_own ?_ | with_reducible refine st_put_top_l ?_ | with_reducible refine st_put_top_ll ?_ | with_reducible refine st_put_top_dc ?_
    | ((with_reducible refine st_callF ?_ ?_); eq_refl) | with_reducible refine st_call ?_ | with_reducible refine st_putK_nil ?_ | with_reducible refine st_putK_t ?_ | with_reducible refine st_putK_f ?_ | with_reducible refine st_putK_td ?_ | with_reducible refine st_putK_to ?_ | with_reducible refine st_bind_nil ?_ | with_reducible refine st_bind_f ?_ | with_reducible refine st_bind_tt ?_ | with_reducible refine st_bind_td ?_ | with_reducible refine st_bind_to ?_
    | with_reducible refine st_frz_d ?_ | with_reducible refine st_frz_own ?_ | with_reducible refine st_frz_top ?_ | with_reducible refine st_frz_own_ll ?_ | with_reducible refine st_frz_own_dc ?_ | with_reducible refine st_frz_top_ll ?_ | with_reducible refine st_frz_top_dc ?_ | with_reducible refine st_frzAll_nil ?_ | with_reducible refine st_frzAll_cons ?_
    | with_reducible refine st_if ?_ | with_reducible refine st_B ?_ | with_reducible refine st_and ?_ | with_reducible refine st_or ?_ | with_reducible refine st_not ?_ | with_reducible refine st_yes ?_ | with_reducible refine st_isB ?_ | with_reducible refine st_t ?_ | with_reducible refine st_f ?_ | ((with_reducible refine st_iteT ?_ ?_); decide) | ((with_reducible refine st_iteF ?_ ?_); decide)
    | with_reducible refine st_nt ?_ | with_reducible refine st_nf ?_
    | with_reducible refine st_ret ?_ | with_reducible refine st_next ?_ | with_reducible refine st_retN ?_ | with_reducible refine st_drop ?_ | with_reducible refine st_break ?_ | with_reducible refine st_raise ?_
    | with_reducible refine st_out_d ?_ | with_reducible refine st_out_own ?_ | with_reducible refine st_out_top ?_
    | with_reducible refine st_tup ?_ | with_reducible refine st_lst ?_ | with_reducible refine st_un ?_ | with_reducible refine st_blt ?_ | with_reducible refine st_lookAll_nil ?_ | with_reducible refine st_lookAll_cons ?_
    | with_reducible refine st_unp ?_ | with_reducible refine st_par ?_ | with_reducible refine st_setIx ?_ | with_reducible refine st_onL ?_ | with_reducible refine st_for ?_ | with_reducible refine st_wipe_nil ?_ | with_reducible refine st_wipe_cons ?_ | with_reducible refine st_andV ?_ | with_reducible refine st_orV ?_ | with_reducible refine st_notV ?_ | with_reducible refine st_ifE ?_ | with_reducible refine st_chain ?_
    | with_reducible refine st_sl ?_ | with_reducible refine st_noPart ?_ | with_reducible refine st_part ?_ | with_reducible refine st_lc ?_ | with_reducible refine st_lm ?_
    | with_reducible refine st_seqI ?_ | with_reducible refine st_range1 ?_ | with_reducible refine st_range2 ?_ | with_reducible refine st_enum ?_ | with_reducible refine st_zip ?_
    | with_reducible refine st_nm ?_ | with_reducible refine st_tp ?_ | with_reducible refine st_tps_nil ?_ | with_reducible refine st_tps_cons ?_
    | ((with_reducible refine st_mod_i ?_ ?_); (first | decide | omega)) | ((with_reducible refine st_fdiv_i ?_ ?_); decide) 
    | with_reducible refine st_add_i ?_ | with_reducible refine st_sub_i ?_ | with_reducible refine st_neg_i ?_ | with_reducible refine st_eq_i ?_ | with_reducible refine st_ne_i ?_ | with_reducible refine st_eq_str ?_ | with_reducible refine st_ne_str ?_ | with_reducible refine st_eq_b ?_ | with_reducible refine st_ne_b ?_ | with_reducible refine st_lt_i ?_ | with_reducible refine st_le_i ?_ | with_reducible refine st_gt_i ?_ | with_reducible refine st_ge_i ?_
    | with_reducible refine st_is_n ?_ | with_reducible refine st_isNot_n ?_ | with_reducible refine st_is_b ?_ | with_reducible refine st_isNot_b ?_ | ((with_reducible refine st_ix_l (x := ?_) ?_ ?_); rotate_left; eq_refl) | ((with_reducible refine st_ix_t (x := ?_) ?_ ?_); rotate_left; eq_refl) | with_reducible refine st_len_l ?_ | with_reducible refine st_len_t ?_ | with_reducible refine st_len_lit ?_
    | with_reducible refine st_abs ?_ | with_reducible refine st_max2 ?_ | with_reducible refine st_min2 ?_ | with_reducible refine st_int_i ?_ | with_reducible refine st_int_b ?_ | with_reducible refine st_tuple_l ?_ | with_reducible refine st_tuple_t ?_ | with_reducible refine st_list_l ?_ | with_reducible refine st_list_t ?_ | ((with_reducible refine st_isT ?_ ?_); eq_refl) | ((with_reducible refine st_isTT ?_ ?_); eq_refl) | ((with_reducible refine st_isTF ?_ ?_); eq_refl) | ((with_reducible refine st_isNT ?_ ?_); eq_refl) | ((with_reducible refine st_isNF ?_ ?_); eq_refl)
    | with_reducible refine st_rg1 ?_ | with_reducible refine st_rg2 ?_ | with_reducible refine st_enumL ?_ | with_reducible refine st_zipS ?_ | with_reducible refine st_rev_l ?_ | with_reducible refine st_rev_t ?_
    | with_reducible refine st_ne_ll ?_ | with_reducible refine st_ne_lit ?_ | with_reducible refine st_in_pt ?_ | with_reducible refine st_in_pl ?_
    | with_reducible refine st_sl_l ?_ | with_reducible refine st_sl_t ?_
    | ((with_reducible refine st_iteLen ?_ ?_); eq_refl) | ((with_reducible refine st_iteNLen ?_ ?_); eq_refl) | with_reducible refine st_iteBB ?_ | ((with_reducible refine st_iteND ?_ ?_); omega) | ((with_reducible refine st_iteNF ?_ ?_); omega)
    | ((with_reducible refine st_iteT (decide_eq_true ?_) ?_); omega) | ((with_reducible refine st_iteF (decide_eq_false ?_) ?_); omega))
local macro_rules
  | `(tactic| sizeOf_list_dec) => `(tactic| with_reducible refine stepTo ?_)
local macro_rules
  | `(tactic| array_get_dec) => `(tactic| repeat sizeOf_list_dec)
local macro_rules
  | `(tactic| sizeOf_list_dec) => `(tactic| first | with_reducible refine st_ix2_l ?_ | with_reducible refine st_ix2_t ?_ | with_reducible refine st_ix2_s ?_ | with_reducible refine st_ix2_lit ?_ | with_reducible refine st_inK_l ?_ | with_reducible refine st_inK_t ?_ | with_reducible refine st_ninK_l ?_ | with_reducible refine st_ninK_t ?_ | with_reducible refine st_setD ?_ | with_reducible refine st_onDc ?_ | with_reducible refine st_dget2 ?_ | with_reducible refine st_emT ?_ | with_reducible refine st_emD ?_ | with_reducible refine st_disp1 ?_ | with_reducible refine st_disp1k ?_ | with_reducible refine st_range3 ?_ | with_reducible refine st_bor ?_ | with_reducible refine st_borT ?_ | with_reducible refine st_bindT_nil ?_ | with_reducible refine st_bindT_d ?_ | with_reducible refine st_bindT_o ?_ | with_reducible refine st_bindT_t ?_ | with_reducible refine st_toPs_nil ?_ | with_reducible refine st_toPs_d ?_ | with_reducible refine st_toPs_l ?_ | with_reducible refine st_toPs_dc ?_ | with_reducible refine st_tupO ?_ | with_reducible refine st_var_tp ?_ | with_reducible refine st_frz_own_tp ?_ | with_reducible refine st_frz_top_tp ?_ | with_reducible refine st_lmP ?_ | ((with_reducible refine st_onP ?_ ?_); eq_refl) | with_reducible refine st_flat_b ?_ | with_reducible refine st_flat_i ?_)
local macro_rules
  | `(tactic| sizeOf_list_dec) => `(tactic| first | with_reducible refine st_lenT_f ?_ | with_reducible refine st_lenT ?_ | with_reducible refine st_ixDT_t ?_ | with_reducible refine st_ixDT_l ?_ | with_reducible refine st_inT_f ?_ | with_reducible refine st_inT2 ?_ | with_reducible refine st_isT_f ?_ | with_reducible refine st_isT2 ?_ | with_reducible refine st_seqT ?_ | with_reducible refine st_seqT_l ?_ | with_reducible refine st_seqT_t ?_ | with_reducible refine st_seqT_f ?_ | with_reducible refine st_tix ?_)
local macro_rules
  | `(tactic| sizeOf_list_dec) => `(tactic| with_reducible refine is_whole_ok fun _ => ?_)
local macro_rules
  | `(tactic| sizeOf_list_dec) => `(tactic| first | with_reducible refine st_in_il ?_ | with_reducible refine st_in_it ?_ | with_reducible refine st_notIn_il ?_ | with_reducible refine st_notIn_it ?_ | with_reducible refine st_ne_ll ?_)
local macro_rules
  | `(tactic| sizeOf_list_dec) => `(tactic| first | with_reducible refine st_lcK ?_ | with_reducible refine st_rowOf ?_)
def nears (n : Int) (ts : List (Int × Int)) (p : Int) : List Int := (rangeI n.toNat).filter fun o => decide ((min p o, max p o) ∈ ts)
theorem neighbours_in_ok {n p : Int} {ts : List (Int × Int)} (g : Good n ts) {X : XF} {Q : R → S → Prop} (h : ∀ fin, Q (.d (.tuple ((nears n ts p).map .int))) fin) : m_neighbours_in [.d (webD n ts), .d (.int p)] X Q := by
  unfold m_neighbours_in b_neighbours_in
  have h0 := g.n0
  have h1 := g.n10
  refine st_sem rfl ?_
  array_get_dec
  refine all_places_ok g fun fin => ?_
  array_get_dec
  refine ⟨by rw [List.length_map, rangeI_len]; show _ ≤ 16777216; omega, ?_⟩
  array_get_dec
  refine comp_filter PyData.int PyData.int (fun o => decide ((min p o, max p o) ∈ ts)) _ (fun z hz kT kF hT hF => ?_) ?_
  · array_get_dec
    refine tied_in_ok fun fin => ?_
    array_get_dec
    refine st_ite (fun q => ?_) (fun q => ?_)
    · array_get_dec
      exact hT q
    · exact hF q
  · array_get_dec
    exact h _
theorem need_place_ok {n p : Int} {ts : List (Int × Int)} (h0 : 0 ≤ p) (h1 : p < n) {X : XF} {Q : R → S → Prop} (h : ∀ fin, Q (.d .none) fin) : m_need_place [.d (webD n ts), .d (.int p)] X Q := by
  unfold m_need_place b_need_place
  refine st_sem rfl ?_
  array_get_dec
  refine is_below_ok fun fin => ?_
  rw [decide_eq_true ⟨h0, h1⟩]
  array_get_dec
  exact h _
theorem neighbours_ok {n z : Int} {ts : List (Int × Int)} (g : Good n ts) (hz : 0 ≤ z ∧ z < n) {X : XF} {Q : R → S → Prop} (h : ∀ fin, Q (.d (.tuple ((nears n ts z).map .int))) fin) : m_neighbours [.d (webD n ts), .d (.int z)] X Q := by
  unfold m_neighbours b_neighbours
  refine st_sem rfl ?_
  array_get_dec
  refine need_web_ok g fun fin => ?_
  array_get_dec
  refine need_place_ok hz.1 hz.2 fun fin => ?_
  array_get_dec
  refine neighbours_in_ok g fun fin => ?_
  array_get_dec
  exact h _
theorem good_no {n : Int} {ts : List (Int × Int)} (g : Good n ts) : ∀ i : Int, Tb ts i i = false := fun i => by
  unfold Tb
  refine decide_eq_false fun hm => ?_
  have := (g.ties _ hm).2.1
  simp only at this
  omega
theorem blocked_symm {ts : List (Int × Int)} {F : List Int} {a b : Int} (hab : a ≠ b) (ht : Tb ts a b = false) (haF : a ∉ F) (h : Blocked ts F a b) : Blocked ts F b a := by
  obtain ⟨C, h1, h2, h3⟩ := h
  refine ⟨fun x => x = b ∨ (x ∈ F ∧ ¬ C x), .inl rfl, fun x y hx hy t => ?_, ?_⟩
  · rcases List.mem_append.mp hy with hy | hy
    · refine .inr ⟨hy, fun hc => ?_⟩
      rcases hx with rfl | ⟨hx, hn⟩
      · exact h3 (h2 y x hc (by simp) (by rw [Tb_symm]; exact t))
      · exact hn (h2 y x hc (by simp [hx]) (by rw [Tb_symm]; exact t))
    · obtain rfl := List.mem_singleton.mp hy
      rcases hx with rfl | ⟨hx, hn⟩
      · rw [Tb_symm, ht] at t; cases t
      · exact (hn (h2 y x h1 (by simp [hx]) (by rw [Tb_symm]; exact t))).elim
  · rintro (h | ⟨h, _⟩)
    · exact hab h
    · exact haF h
theorem free_mem {ts : List (Int × Int)} {L : List Int} {p z : Int} : z ∈ freeOf ts L p ↔ z ∈ L ∧ z ≠ p ∧ Tb ts p z = false := by
  unfold freeOf
  rw [List.mem_filter]
  simp
/-- nothing goes at a place, either way about -/
def NR (ts : List (Int × Int)) (L : List Int) (p : Int) : Prop := ∀ a ∈ L, ∀ b ∈ L, a ≠ b → Tb ts p a = true → Tb ts p b = true → Tb ts a b = false → Blocked ts (freeOf ts L p) a b
theorem RingN.nr {ts : List (Int × Int)} {L : List Int} {p : Int} (h : RingN ts L p) : NR ts L p := fun a ha b hb hab t1 t2 t3 => by
  rcases h a ha b hb hab t1 t2 t3 with h | h
  · exact h
  · exact blocked_symm (Ne.symm hab) (by rw [Tb_symm]; exact t3) (fun hm => by rw [(free_mem.mp hm).2.2] at t2; cases t2) h
theorem NR.sub {ts : List (Int × Int)} {L M : List Int} {p : Int} (h : NR ts L p) (hs : ∀ z ∈ M, z ∈ L) : NR ts M p := fun a ha b hb hab t1 t2 t3 => by
  obtain ⟨C, h1, h2, h3⟩ := h a (hs a ha) b (hs b hb) hab t1 t2 t3
  refine ⟨C, h1, fun x y hx hy t => h2 x y hx ?_ t, h3⟩
  rcases List.mem_append.mp hy with hy | hy
  · have := free_mem.mp hy
    exact List.mem_append.mpr (.inl (free_mem.mpr ⟨hs y this.1, this.2⟩))
  · exact List.mem_append.mpr (.inr hy)
/-- come to over F -/
inductive Con (ts : List (Int × Int)) (F : List Int) (w : Int) : Int → Prop
  | base : Con ts F w w
  | step {x y : Int} : Con ts F w x → y ∈ F → Tb ts x y = true → Con ts F w y
theorem Con.mem {ts : List (Int × Int)} {F : List Int} {w x : Int} (hw : w ∈ F) (h : Con ts F w x) : x ∈ F := by
  cases h with
  | base => exact hw
  | step _ h _ => exact h
theorem Con.all {ts : List (Int × Int)} {F : List Int} {w x : Int} {B : Int → Prop} (hw : w ∈ F) (hB : ∀ x y, B x → y ∈ F → Tb ts x y = true → B y) (h : Con ts F w x) : B x ↔ B w := by
  induction h with
  | base => exact Iff.rfl
  | step h hy t ih => exact ⟨fun hb => ih.mp (hB _ _ hb (h.mem hw) (by rw [Tb_symm]; exact t)), fun hb => hB _ _ (ih.mpr hb) hy t⟩
theorem simp_of {ts : List (Int × Int)} {L : List Int} (irr : ∀ z, Tb ts z z = false) : ∀ (N : Nat) (L : List Int), L.length ≤ N → L.Nodup → (∀ p ∈ L, NR ts L p) → ∀ v ∈ L, ∀ w ∈ L, w ≠ v → Tb ts v w = false → ∃ u ∈ L, u ≠ v ∧ Tb ts v u = false ∧ Simp ts L u := by
  classical
  intro N
  induction N with
  | zero =>
    intro L hl _ _ v hv
    cases L with
    | nil => cases hv
    | cons _ _ => simp at hl
  | succ N ih =>
    intro L hl hnd hnr v hv w hw hwv htw
    have hwF : w ∈ freeOf ts L v := free_mem.mpr ⟨hw, hwv, htw⟩
    generalize hF : freeOf ts L v = F at hwF
    have fm : ∀ z, z ∈ F ↔ z ∈ L ∧ z ≠ v ∧ Tb ts v z = false := fun z => by rw [← hF]; exact free_mem
    let C : Int → Prop := Con ts F w
    let Sx : Int → Prop := fun s => Tb ts v s = true ∧ ∃ c, C c ∧ Tb ts c s = true
    have cF : ∀ c, C c → c ∈ F := fun c hc => Con.mem hwF hc
    have clique : ∀ a b, a ∈ L → b ∈ L → Sx a → Sx b → a ≠ b → Tb ts a b = true := by
      intro a b ha hb ⟨ta, c1, h1, t1⟩ ⟨tb, c2, h2, t2⟩ hab
      cases e : Tb ts a b with
      | true => rfl
      | false =>
        exfalso
        obtain ⟨B, b1, b2, b3⟩ := hnr v hv a ha b hb hab ta tb e
        rw [hF] at b2
        have bF : ∀ x y, B x → y ∈ F → Tb ts x y = true → B y := fun x y hx hy t => b2 x y hx (by simp [hy]) t
        have k1 : B c1 := bF a c1 b1 (cF c1 h1) (by rw [Tb_symm]; exact t1)
        have kw : B w := (Con.all hwF bF h1).mp k1
        have k2 : B c2 := (Con.all hwF bF h2).mpr kw
        exact b3 (b2 c2 b k2 (by simp) t2)
    let M : List Int := L.filter fun z => decide (C z ∨ Sx z)
    have mM : ∀ z, z ∈ M ↔ z ∈ L ∧ (C z ∨ Sx z) := fun z => by
      show z ∈ L.filter _ ↔ _
      rw [List.mem_filter, decide_eq_true_iff]
    have hsub : M.Sublist L := List.filter_sublist
    have vM : v ∉ M := fun h => by
      rcases ((mM v).mp h).2 with h | h
      · exact ((fm v).mp (cF v h)).2.1 rfl
      · have := h.1
        rw [irr] at this
        cases this
    have hlt : M.length < L.length := by
      refine Nat.lt_of_le_of_ne hsub.length_le fun e => vM ?_
      have := hsub.eq_of_length e
      rw [this]
      exact hv
    have hMnr : ∀ p ∈ M, NR ts M p := fun p hp => (hnr p ((mM p).mp hp).1).sub fun z hz => ((mM z).mp hz).1
    have CM : ∀ c, C c → c ∈ M := fun c hc => (mM c).mpr ⟨((fm c).mp (cF c hc)).1, .inl hc⟩
    -- what may be taken out of M, among C, may be taken out of L
    have up : ∀ u, C u → Simp ts M u → Simp ts L u := by
      intro u hu hs
      have e : L.filter (Tb ts u) = M.filter (Tb ts u) := by
        show _ = (L.filter _).filter _
        rw [List.filter_filter]
        refine List.filter_congr fun z hz => ?_
        cases t : Tb ts u z with
        | false => simp
        | true =>
          have hu2 := (fm u).mp (cF u hu)
          have zv : z ≠ v := fun e => by
            rw [e, Tb_symm, hu2.2.2] at t; cases t
          have : C z ∨ Sx z := by
            cases t2 : Tb ts v z with
            | true => exact .inr ⟨t2, u, hu, t⟩
            | false => exact .inl (Con.step hu ((fm z).mpr ⟨hz, zv, t2⟩) t)
          simp [this]
      unfold Simp
      rw [e]
      exact hs
    have fin : ∀ u, C u → Simp ts M u → ∃ u ∈ L, u ≠ v ∧ Tb ts v u = false ∧ Simp ts L u := fun u hu hs =>
      have := (fm u).mp (cF u hu)
      ⟨u, this.1, this.2.1, this.2.2, up u hu hs⟩
    by_cases c1 : ∃ s ∈ M, Sx s ∧ ∃ x ∈ M, x ≠ s ∧ Tb ts s x = false
    · obtain ⟨s, hs, hss, x, hx, hxs, htx⟩ := c1
      obtain ⟨u, hu, hus, htu, hsu⟩ := ih M (by omega) (hnd.sublist hsub) hMnr s hs x hx hxs htx
      rcases ((mM u).mp hu).2 with h | h
      · exact fin u h hsu
      · have := clique s u ((mM s).mp hs).1 ((mM u).mp hu).1 hss h (Ne.symm hus)
        rw [htu] at this
        cases this
    · by_cases c2 : ∃ c ∈ M, C c ∧ ∃ x ∈ M, x ≠ c ∧ Tb ts c x = false
      · obtain ⟨c, hc, hcc, x, hx, hxc, htx⟩ := c2
        obtain ⟨u, hu, huc, htu, hsu⟩ := ih M (by omega) (hnd.sublist hsub) hMnr c hc x hx hxc htx
        rcases ((mM u).mp hu).2 with h | h
        · exact fin u h hsu
        · exact (c1 ⟨u, hu, h, c, hc, Ne.symm huc, by rw [Tb_symm]; exact htu⟩).elim
      · refine fin w .base ?_
        refine (List.Pairwise.sublist List.filter_sublist (List.pairwise_iff_forall_sublist.mpr ?_) : (M.filter (Tb ts w)).Pairwise fun a b => Tb ts a b = true)
        intro a b hab
        have hnM := hnd.sublist hsub
        have ha : a ∈ M := hab.subset (by simp)
        have hb : b ∈ M := hab.subset (by simp)
        have ne : a ≠ b := by
          have := hnM.sublist hab
          simpa using this
        cases e : Tb ts a b with
        | true => rfl
        | false =>
          rcases ((mM a).mp ha).2 with h | h
          · exact (c2 ⟨a, ha, h, b, hb, Ne.symm ne, e⟩).elim
          · exact (c1 ⟨a, ha, h, b, hb, Ne.symm ne, e⟩).elim
theorem ring_there {ts : List (Int × Int)} {M : List Int} (irr : ∀ z, Tb ts z z = false) (hnd : M.Nodup) (hne : M ≠ []) (hs : Stuck ts M) : ¬ ∀ p ∈ M, RingN ts M p := by
  intro h
  have hnr : ∀ p ∈ M, NR ts M p := fun p hp => (h p hp).nr
  by_cases c : ∃ v ∈ M, ∃ w ∈ M, w ≠ v ∧ Tb ts v w = false
  · obtain ⟨v, hv, w, hw, hwv, ht⟩ := c
    obtain ⟨u, hu, _, _, hsu⟩ := simp_of (L := M) irr M.length M (Nat.le_refl _) hnd hnr v hv w hw hwv ht
    exact hs u hu hsu
  · obtain ⟨p, hp⟩ : ∃ p, p ∈ M := by
      cases M with
      | nil => exact (hne rfl).elim
      | cons p _ => exact ⟨p, by simp⟩
    refine hs p hp ?_
    refine (List.Pairwise.sublist List.filter_sublist (List.pairwise_iff_forall_sublist.mpr ?_) : (M.filter (Tb ts p)).Pairwise fun a b => Tb ts a b = true)
    intro a b hab
    have ha : a ∈ M := hab.subset (by simp)
    have hb : b ∈ M := hab.subset (by simp)
    have ne : a ≠ b := by
      have := hnd.sublist hab
      simpa using this
    cases e : Tb ts a b with
    | true => rfl
    | false => exact (c ⟨a, ha, b, hb, Ne.symm ne, e⟩).elim
/-- what is told is a bare ring -/
theorem RingY.bare {n p : Int} {ts : List (Int × Int)} {L r : List Int} (irr : ∀ z, Tb ts z z = false) (h : RingY ts L p r) (hr : ∀ z ∈ r, 0 ≤ z ∧ z < n) : BareP n ts r := by
  obtain ⟨a, b, w, ha, hb, hab, t1, t2, t3, hw, rfl⟩ := h
  obtain ⟨mid, rfl, hm⟩ := hw.ends
  have hmid : mid ≠ [] := fun e => by
    subst e
    have := hw.tie 0 (by simp)
    have e1 : atZ (a :: [] ++ [b]) ((0 : Nat) : Int) = a := by simp [atZ]
    have e2 : atZ (a :: [] ++ [b]) ((0 + 1 : Nat) : Int) = b := by simp [atZ]
    rw [e1, e2, t3] at this
    cases this
  have hml : 1 ≤ mid.length := by
    cases mid with
    | nil => exact (hmid rfl).elim
    | cons _ _ => simp
  have hlen : (a :: mid ++ [b]).length = mid.length + 2 := by simp
  generalize hW : a :: mid ++ [b] = W at *
  have W0 : atZ W ((0 : Nat) : Int) = a := by rw [← hW]; simp [atZ]
  have Wl : atZ W ((mid.length + 1 : Nat) : Int) = b := by rw [← hW]; simp [atZ]
  have Wm : ∀ i : Nat, 0 < i → i < mid.length + 1 → atZ W (i : Int) ∈ mid := fun i h0 h1 => by
    obtain ⟨j, rfl⟩ : ∃ j, i = j + 1 := ⟨i - 1, by omega⟩
    have hj : j < mid.length := by omega
    have : atZ W ((j + 1 : Nat) : Int) = mid[j] := by
      rw [← hW]
      simp [atZ, List.getElem?_append_left hj, List.getElem?_eq_getElem hj]
    rw [this]
    exact List.getElem_mem hj
  have pW : p ∉ W := fun hp => by
    rw [← hW] at hp
    rcases List.mem_append.mp hp with hp | hp
    · rcases List.mem_cons.mp hp with rfl | hp
      · rw [irr] at t1; cases t1
      · exact (free_mem.mp (hm p hp)).2.1 rfl
    · rw [← List.mem_singleton.mp hp, irr] at t2; cases t2
  refine ⟨by simp only [List.length_cons]; omega, hr, List.nodup_cons.mpr ⟨pW, hw.nd⟩, fun i j hji hi => ?_⟩
  have at1 : ∀ k : Nat, atZ (p :: W) ((k + 1 : Nat) : Int) = atZ W (k : Int) := fun k => by simp [atZ]
  have at0 : atZ (p :: W) ((0 : Nat) : Int) = p := by simp [atZ]
  have key : Tb ts (atZ (p :: W) (i : Int)) (atZ (p :: W) (j : Int)) = true ↔ ((i : Int) - j = 1 ∨ (i : Int) - j = (p :: W).length - 1) := by
    simp only [List.length_cons] at hi ⊢
    obtain ⟨i, rfl⟩ : ∃ i', i = i' + 1 := ⟨i - 1, by omega⟩
    rw [at1 i]
    cases j with
    | zero =>
      rw [at0, Tb_symm]
      by_cases h0 : i = 0
      · subst h0
        rw [W0, t1]
        simp
      · by_cases h1 : i = mid.length + 1
        · subst h1
          rw [Wl, t2]
          simp only [true_iff]
          right
          omega
        · have := (free_mem.mp (hm _ (Wm i (by omega) (by omega)))).2.2
          rw [this]
          simp only [Bool.false_eq_true, false_iff]
          omega
    | succ j =>
      rw [at1 j]
      by_cases h1 : i = j + 1
      · subst h1
        have := hw.tie j (by omega)
        rw [Tb_symm, this]
        simp only [true_iff]
        left
        omega
      · have := hw.far j i (by omega) (by omega)
        rw [Tb_symm, this]
        simp only [Bool.false_eq_true, false_iff]
        omega
  unfold Pok
  rw [← key]
  unfold Tb
  rw [decide_eq_true_iff]
theorem tied_anyP {ts : List (Int × Int)} {P : List Int} (h : Tied ts P) {a b : Int} (ha : a ∈ P) (hb : b ∈ P) (hab : a ≠ b) : Tb ts a b = true := by
  have go : ∀ P : List Int, Tied ts P → a ∈ P → b ∈ P → Tb ts a b = true := by
    intro P
    induction P with
    | nil => intro _ ha _; cases ha
    | cons c P ih =>
      intro h ha hb
      obtain ⟨h1, h2⟩ := List.pairwise_cons.mp h
      rcases List.mem_cons.mp ha with e1 | ha
      · rcases List.mem_cons.mp hb with e2 | hb
        · exact absurd (e1.trans e2.symm) hab
        · rw [e1]; exact h1 b hb
      · rcases List.mem_cons.mp hb with e2 | hb
        · rw [Tb_symm, e2]; exact h1 a ha
        · exact ih h2 ha hb
  exact go P h ha hb
theorem simp_iff {ts : List (Int × Int)} {M : List Int} {p : Int} (nd : M.Nodup) : Simp ts M p ↔ ∀ x ∈ M, ∀ y ∈ M, x ≠ y → Tb ts p x = true → Tb ts p y = true → Tb ts x y = true := by
  constructor
  · intro h x hx y hy ne t1 t2
    exact tied_anyP h (List.mem_filter.mpr ⟨hx, t1⟩) (List.mem_filter.mpr ⟨hy, t2⟩) ne
  · intro h
    refine List.Pairwise.imp_of_mem (fun {x y} hx hy ne => ?_) (nd.filter _)
    obtain ⟨hx, t1⟩ := List.mem_filter.mp hx
    obtain ⟨hy, t2⟩ := List.mem_filter.mp hy
    exact h x hx y hy ne t1 t2
def Ch (ts : List (Int × Int)) (L : List Int) : Prop := ∀ M : List Int, M ≠ [] → M.Nodup → (∀ z ∈ M, z ∈ L) → ∃ p ∈ M, Simp ts M p
theorem steps_ch {ts : List (Int × Int)} : ∀ {L o : List Int}, Steps ts L o [] → Ch ts L
  | _, _, .nil => fun M ne _ hs => by
    cases M with
    | nil => exact absurd rfl ne
    | cons a M => exact nomatch hs a List.mem_cons_self
  | L, _, .cons (p := p) h1 h2 r => fun M ne nd hs => by
    by_cases hp : p ∈ M
    · exact ⟨p, hp, (simp_iff nd).mpr fun x hx y hy n2 t1 t2 => tied_anyP h2 (List.mem_filter.mpr ⟨hs x hx, t1⟩) (List.mem_filter.mpr ⟨hs y hy, t2⟩) n2⟩
    · exact steps_ch r M ne nd fun z hz => out_mem.mpr ⟨hs z hz, fun e => hp (e ▸ hz)⟩
theorem ch_steps {ts : List (Int × Int)} : ∀ (k : Nat) (L : List Int), L.length ≤ k → L.Nodup → Ch ts L → ∃ o, Steps ts L o []
  | 0, L, hl, _, _ => by
    have : L = [] := List.length_eq_zero_iff.mp (by omega)
    subst this
    exact ⟨[], .nil⟩
  | k + 1, L, hl, nd, h => by
    by_cases e : L = []
    · subst e
      exact ⟨[], .nil⟩
    · obtain ⟨p, hp, hs⟩ := h L e nd fun z hz => hz
      have := out_len hp
      obtain ⟨o, ho⟩ := ch_steps k (out L p) (by omega) (nd.sublist out_sub) fun M a b c => h M a b fun z hz => (out_mem.mp (c z hz)).1
      exact ⟨p :: o, .cons hp hs ho⟩
theorem Ch.mono {ts : List (Int × Int)} {L K : List Int} (h : Ch ts L) (hs : ∀ z ∈ K, z ∈ L) : Ch ts K := fun M a b c => h M a b fun z hz => hs z (c z hz)
/-- carried back along a map -/
theorem Ch.pull {ts us : List (Int × Int)} {L K : List Int} (h : Ch us K) (φ : Int → Int) (irr : ∀ z, Tb ts z z = false) (into : ∀ x ∈ L, φ x ∈ K) (inj : ∀ x ∈ L, ∀ y ∈ L, φ x = φ y → x = y)
    (tie : ∀ x ∈ L, ∀ y ∈ L, x ≠ y → Tb us (φ x) (φ y) = Tb ts x y) : Ch ts L := fun M ne nd hs => by
  have nd2 : (M.map φ).Nodup := by
    refine List.pairwise_map.mpr (List.Pairwise.imp_of_mem (fun {a b} ha hb hab e => hab (inj a (hs a ha) b (hs b hb) e)) nd)
  obtain ⟨q, hq, sq⟩ := h (M.map φ) (fun e => ne (List.map_eq_nil_iff.mp e)) nd2 fun z hz => by
    obtain ⟨x, hx, rfl⟩ := List.mem_map.mp hz
    exact into x (hs x hx)
  obtain ⟨p, hp, rfl⟩ := List.mem_map.mp hq
  have sq := (simp_iff nd2).mp sq
  have neq : ∀ x, Tb ts p x = true → p ≠ x := fun x t e => by rw [← e, irr] at t; cases t
  refine ⟨p, hp, (simp_iff nd).mpr fun x hx y hy n2 t1 t2 => ?_⟩
  rw [← tie x (hs x hx) y (hs y hy) n2]
  exact sq (φ x) (List.mem_map.mpr ⟨x, hx, rfl⟩) (φ y) (List.mem_map.mpr ⟨y, hy, rfl⟩) (fun e => n2 (inj x (hs x hx) y (hs y hy) e)) (by rw [tie p (hs p hp) x (hs x hx) (neq x t1)]; exact t1) (by rw [tie p (hs p hp) y (hs y hy) (neq y t2)]; exact t2)
theorem ch_join {ts : List (Int × Int)} {A B L : List Int} (hA : Ch ts A) (hB : Ch ts B) (cross : ∀ x ∈ A, ∀ y ∈ B, Tb ts x y = false) (cov : ∀ z ∈ L, z ∈ A ∨ z ∈ B) : Ch ts L := fun M ne nd hs => by
  by_cases e : (M.filter fun z => decide (z ∈ A)) = []
  · refine hB M ne nd fun z hz => (cov z (hs z hz)).resolve_left fun ha => ?_
    have : z ∈ (M.filter fun z => decide (z ∈ A)) := List.mem_filter.mpr ⟨hz, decide_eq_true ha⟩
    rw [e] at this
    cases this
  · obtain ⟨p, hp, sp⟩ := hA _ e (nd.filter _) fun z hz => of_decide_eq_true (List.mem_filter.mp hz).2
    obtain ⟨pm, pa⟩ := List.mem_filter.mp hp
    have pa := of_decide_eq_true pa
    have inA : ∀ x ∈ M, Tb ts p x = true → x ∈ (M.filter fun z => decide (z ∈ A)) := fun x hx t => by
      refine List.mem_filter.mpr ⟨hx, decide_eq_true ?_⟩
      refine (cov x (hs x hx)).resolve_right fun hb => ?_
      rw [cross p pa x hb] at t
      cases t
    exact ⟨p, pm, (simp_iff nd).mpr fun x hx y hy n2 t1 t2 => (simp_iff (nd.filter _)).mp sp x (inA x hx t1) y (inA y hy t2) n2 t1 t2⟩
theorem ch_one {ts : List (Int × Int)} {A L : List Int} {w : Int} (hA : Ch ts A) (irr : ∀ z, Tb ts z z = false) (crowd : ∀ x ∈ A, ∀ y ∈ A, x ≠ y → Tb ts w x = true → Tb ts w y = true → Tb ts x y = true) (cov : ∀ z ∈ L, z ∈ A ∨ z = w) : Ch ts L := fun M ne nd hs => by
  by_cases hw : w ∈ M
  · have inA : ∀ x ∈ M, Tb ts w x = true → x ∈ A := fun x hx t => (cov x (hs x hx)).resolve_right fun e => by
      rw [e, irr] at t
      cases t
    exact ⟨w, hw, (simp_iff nd).mpr fun x hx y hy n2 t1 t2 => crowd x (inA x hx t1) y (inA y hy t2) n2 t1 t2⟩
  · exact hA M ne nd fun z hz => (cov z (hs z hz)).resolve_right fun e => hw (e ▸ hz)
/-- a web that folds -/
def Fo (n : Int) (ts : List (Int × Int)) : Prop := Ch ts (rangeI n.toNat)
theorem fo_steps {n : Int} {ts : List (Int × Int)} {o : List Int} (h : Steps ts (rangeI n.toNat) o []) : Fo n ts := steps_ch h
theorem fo_not {n : Int} {ts : List (Int × Int)} {o M : List Int} (h1 : Steps ts (rangeI n.toNat) o M) (h2 : Stuck ts M) (h3 : M ≠ []) : ¬ Fo n ts := fun h => by
  obtain ⟨o2, ho⟩ := ch_steps _ _ (Nat.le_refl _) rangeI_nd h
  exact h3 (left_one h1 h2 ho rfl)
theorem ring_tb {ts : List (Int × Int)} {r : List Int} (h : RingP ts r) {x y : Nat} (hx : x < r.length) (hy : y < r.length) (ne : x ≠ y) : Tb ts (atZ r x) (atZ r y) = true ↔ (x + 1 = y ∨ y + 1 = x ∨ x + r.length = y + 1 ∨ y + r.length = x + 1) := by
  rcases Nat.lt_or_gt_of_ne ne with q | q
  · have p := h y x q hy
    unfold Pok at p
    rw [Tb_symm]
    unfold Tb
    rw [decide_eq_true_iff, p]
    omega
  · have p := h x y q hx
    unfold Pok at p
    unfold Tb
    rw [decide_eq_true_iff, p]
    omega
def nxt (k x : Nat) : Nat := if x + 1 < k then x + 1 else 0
def prv (k x : Nat) : Nat := if 0 < x then x - 1 else k - 1
theorem ring_near {ts : List (Int × Int)} {r : List Int} (h : RingP ts r) (h4 : 4 ≤ r.length) {x y : Nat} (hx : x < r.length) (hy : y < r.length) (ne : x ≠ y) : Tb ts (atZ r x) (atZ r y) = true ↔ (y = nxt r.length x ∨ y = prv r.length x) := by
  rw [ring_tb h hx hy ne]
  unfold nxt prv
  split <;> split <;> omega
theorem nxt_lt {k x : Nat} (h4 : 4 ≤ k) (hx : x < k) : nxt k x < k ∧ prv k x < k ∧ nxt k x ≠ prv k x ∧ nxt k x ≠ x ∧ prv k x ≠ x := by
  unfold nxt prv
  split <;> split <;> omega
theorem at_mem {r : List Int} {p : Int} (h : p ∈ r) : ∃ x : Nat, x < r.length ∧ atZ r (x : Int) = p := by
  obtain ⟨x, hx, e⟩ := List.mem_iff_getElem.mp h
  exact ⟨x, hx, by simp [atZ, List.getElem?_eq_getElem hx, e]⟩
theorem atZ_memN {r : List Int} {x : Nat} (h : x < r.length) : atZ r (x : Int) ∈ r := atZ_mem (by omega) (by omega)
theorem bare_no {n : Int} {ts : List (Int × Int)} {r : List Int} (hb : BareP n ts r) : ∀ p ∈ r, ¬ Simp ts r p := fun p hp hs => by
  obtain ⟨h4, _, nd, rp⟩ := hb
  obtain ⟨x, hx, rfl⟩ := at_mem hp
  obtain ⟨a1, b1, ab, ax, bx⟩ := nxt_lt h4 hx
  have := (simp_iff nd).mp hs (atZ r (nxt r.length x : Nat)) (atZ_memN a1) (atZ r (prv r.length x : Nat)) (atZ_memN b1) (fun e => ab (by
    have := atZ_inj nd (by omega) (by omega) (by omega) (by omega) e
    omega)) ((ring_near rp h4 hx a1 ax.symm).mpr (.inl rfl)) ((ring_near rp h4 hx b1 bx.symm).mpr (.inr rfl))
  rw [ring_tb rp a1 b1 ab] at this
  revert this
  unfold nxt prv
  split <;> split <;> omega
/-- what a web that is cut down ties -/
theorem cut_tb {n : Int} {ts qs : List (Int × Int)} {ks : List Int} (hs : Set' n ks) (hw : Whole ks.length (fun i j => (atZ ks i, atZ ks j) ∈ ts) qs) {i j : Int} (i0 : 0 ≤ i) (i1 : i < ks.length) (j0 : 0 ≤ j) (j1 : j < ks.length) (ne : i ≠ j) : Tb qs i j = Tb ts (atZ ks i) (atZ ks j) := by
  have one : ∀ {i j : Int}, 0 ≤ i → i < j → j < ks.length → Tb qs i j = Tb ts (atZ ks i) (atZ ks j) := fun {i j} h0 h1 h2 => by
    have lt := hs.at_lt h0 h1 h2
    rw [Bool.eq_iff_iff, tb_iff h1, tb_iff lt, hw.mem]
    constructor
    · exact fun q => q.2.2.2
    · exact fun q => ⟨h0, h1, h2, q⟩
  rcases Int.lt_or_gt_of_ne ne with q | q
  · exact one i0 q j1
  · rw [Tb_symm, one j0 q i1, Tb_symm]
def ix (ks : List Int) (x : Int) : Int := (ks.idxOf x : Nat)
theorem ix_ok {ks : List Int} {x : Int} (h : x ∈ ks) : 0 ≤ ix ks x ∧ ix ks x < ks.length ∧ atZ ks (ix ks x) = x := by
  have hl := List.idxOf_lt_length_of_mem h
  refine ⟨Int.natCast_nonneg _, by unfold ix; omega, ?_⟩
  unfold ix atZ
  rw [Int.toNat_natCast, List.getD_eq_getElem?_getD, List.getElem?_eq_getElem hl]
  simp
theorem ix_inj {ks : List Int} {x y : Int} (hx : x ∈ ks) (hy : y ∈ ks) (e : ix ks x = ix ks y) : x = y := by
  rw [← (ix_ok hx).2.2, ← (ix_ok hy).2.2, e]
theorem ix_at {ks : List Int} (nd : ks.Nodup) {z : Int} (h0 : 0 ≤ z) (h1 : z < ks.length) : ix ks (atZ ks z) = z := by
  have m : atZ ks z ∈ ks := atZ_mem h0 h1
  have k := ix_ok m
  exact atZ_inj nd k.1 k.2.1 h0 h1 k.2.2
/-- a web cut down folds where its places do -/
theorem cut_pull {n : Int} {ts qs : List (Int × Int)} {ks : List Int} (irr : ∀ z, Tb ts z z = false) (hs : Set' n ks) (hw : Whole ks.length (fun i j => (atZ ks i, atZ ks j) ∈ ts) qs) (h : Fo ks.length qs) : Ch ts ks := by
  refine Ch.pull (us := qs) (K := rangeI ((ks.length : Int)).toNat) h (ix ks) irr (fun x hx => ?_) (fun x hx y hy e => ix_inj hx hy e) (fun x hx y hy ne => ?_)
  · have := ix_ok hx
    exact rangeI_mem.mpr ⟨this.1, by omega⟩
  · have a := ix_ok hx
    have b := ix_ok hy
    rw [cut_tb hs hw a.1 a.2.1 b.1 b.2.1 (fun e => ne (ix_inj hx hy e)), a.2.2, b.2.2]
theorem cut_push {n : Int} {ts qs : List (Int × Int)} {ks : List Int} (irr : ∀ z, Tb qs z z = false) (hs : Set' n ks) (hw : Whole ks.length (fun i j => (atZ ks i, atZ ks j) ∈ ts) qs) (h : Fo n ts) : Fo ks.length qs := by
  have nd : ks.Nodup := hs.up.imp fun {a b} h e => by omega
  refine Ch.pull (us := ts) (K := rangeI n.toNat) h (fun z => atZ ks z) irr (fun x hx => ?_) (fun x hx y hy e => ?_) (fun x hx y hy ne => ?_)
  · have hx := rangeI_mem.mp hx
    have := hs.lt _ (atZ_mem (ls := ks) hx.1 (by omega))
    exact rangeI_mem.mpr ⟨this.1, by omega⟩
  · have hx := rangeI_mem.mp hx
    have hy := rangeI_mem.mp hy
    exact atZ_inj nd hx.1 (by omega) hy.1 (by omega) e
  · have hx := rangeI_mem.mp hx
    have hy := rangeI_mem.mp hy
    exact (cut_tb hs hw hx.1 (by omega) hy.1 (by omega) ne).symm
section
variable {n : Int} {ts qs : List (Int × Int)} {r ks : List Int}
theorem ring_cut_no (irr : ∀ z, Tb ts z z = false) (hb : BareP n ts r) (pm : ks.Perm r) (hs : Set' n ks) (hw : Whole ks.length (fun i j => (atZ ks i, atZ ks j) ∈ ts) qs) : ¬ Fo ks.length qs := fun h => by
  have hb' := hb
  obtain ⟨h4, _, nd, _⟩ := hb'
  obtain ⟨p, hp, sp⟩ := cut_pull irr hs hw h r (fun e => by rw [e] at h4; exact absurd h4 (by decide)) nd fun z hz => pm.mem_iff.mpr hz
  exact bare_no hb p hp sp
theorem ring_cut_two (irr : ∀ z, Tb qs z z = false) (hb : BareP n ts r) (pm : ks.Perm r) (hs : Set' n ks) (hw : Whole ks.length (fun i j => (atZ ks i, atZ ks j) ∈ ts) qs) {z : Int} (z0 : 0 ≤ z) (z1 : z < ks.length) : (nears ks.length qs z).length = 2 := by
  obtain ⟨h4, _, nd, rp⟩ := hb
  have ndk : ks.Nodup := hs.up.imp fun {a b} h e => by omega
  have kl := pm.length_eq
  obtain ⟨x, hx, ex⟩ := at_mem (pm.mem_iff.mp (atZ_mem (ls := ks) z0 z1))
  obtain ⟨a1, b1, ab, ax, bx⟩ := nxt_lt h4 hx
  have ma : atZ r (nxt r.length x : Nat) ∈ ks := pm.mem_iff.mpr (atZ_memN a1)
  have mb : atZ r (prv r.length x : Nat) ∈ ks := pm.mem_iff.mpr (atZ_memN b1)
  have ka := ix_ok ma
  have kb := ix_ok mb
  have perm : (nears ks.length qs z).Perm [ix ks (atZ r (nxt r.length x : Nat)), ix ks (atZ r (prv r.length x : Nat))] := by
    refine (List.perm_ext_iff_of_nodup (rangeI_nd.filter _) (List.nodup_cons.mpr ⟨fun e => ?_, by simp⟩)).mpr fun o => ?_
    · have e := ix_inj ma mb (List.mem_singleton.mp e)
      have := atZ_inj nd (by omega) (by omega) (by omega) (by omega) e
      omega
    · rw [List.mem_filter, rangeI_mem]
      show _ ∧ Tb qs z o = true ↔ _
      constructor
      · rintro ⟨ho, t⟩
        have ne : z ≠ o := fun e => by rw [e, irr] at t; cases t
        have ho2 : o < ks.length := by omega
        rw [cut_tb hs hw z0 z1 ho.1 ho2 ne, ← ex] at t
        obtain ⟨y, hy, ey⟩ := at_mem (pm.mem_iff.mp (atZ_mem (ls := ks) ho.1 ho2))
        rw [← ey] at t
        have nxy : x ≠ y := fun e => ne (atZ_inj ndk z0 z1 ho.1 ho2 (by rw [← ex, ← ey, e]))
        have eo : o = ix ks (atZ r y) := by rw [ey, ix_at ndk ho.1 ho2]
        rcases (ring_near rp h4 hx hy nxy).mp t with q | q
        · rw [eo, q]; simp
        · rw [eo, q]; simp
      · intro q
        simp only [List.mem_cons, List.not_mem_nil, or_false] at q
        rcases q with rfl | rfl
        · refine ⟨⟨ka.1, by omega⟩, ?_⟩
          have ne : z ≠ ix ks (atZ r (nxt r.length x : Nat)) := fun e => by
            have e2 : atZ ks z = atZ r (nxt r.length x : Nat) := by rw [e]; exact ka.2.2
            rw [← ex] at e2
            have := atZ_inj nd (by omega) (by omega) (by omega) (by omega) e2
            omega
          rw [cut_tb hs hw z0 z1 ka.1 ka.2.1 ne, ka.2.2, ← ex]
          exact (ring_near rp h4 hx a1 ax.symm).mpr (.inl rfl)
        · refine ⟨⟨kb.1, by omega⟩, ?_⟩
          have ne : z ≠ ix ks (atZ r (prv r.length x : Nat)) := fun e => by
            have e2 : atZ ks z = atZ r (prv r.length x : Nat) := by rw [e]; exact kb.2.2
            rw [← ex] at e2
            have := atZ_inj nd (by omega) (by omega) (by omega) (by omega) e2
            omega
          rw [cut_tb hs hw z0 z1 kb.1 kb.2.1 ne, kb.2.2, ← ex]
          exact (ring_near rp h4 hx b1 bx.symm).mpr (.inr rfl)
  exact perm.length_eq
end
theorem crowd_hues {n : Int} {ts : List (Int × Int)} {hue : Int → Int} {c s : List Int} (g : Good n ts) (h1 : ∀ z, 0 ≤ z → z < n → 0 ≤ hue z ∧ hue z < c.length) (h2 : ∀ x y, 0 ≤ x → x < n → 0 ≤ y → y < n → x ≠ y → Tb ts x y = true → hue x ≠ hue y)
    (h3 : Set' n c) (h4 : Tied ts c) (hs : FirstM (fulls true n ts) s) : c.length = s.length := by
  have n0 := g.n0
  obtain ⟨pre, suf, e, m1, m2⟩ := hs
  have sm : s ∈ fulls true n ts := by rw [e]; simp
  have most : ∀ t ∈ fulls true n ts, t.length ≤ s.length := fun t ht => by
    rw [e] at ht
    rcases List.mem_append.mp ht with h | h
    · exact Nat.le_of_lt (m1 t h)
    · rcases List.mem_cons.mp h with rfl | h
      · exact Nat.le_refl _
      · exact m2 t h
  have fs := (fulls_mem g.n0 g.n10).mp sm
  have up : c.length ≤ s.length := by
    obtain ⟨S, hS, hl⟩ := fulls_ext (w := true) g (T := c) (rising_sub _ _ h3.up fun z hz => by have := h3.lt z hz; omega) h4
    exact Nat.le_trans hl (most S hS)
  have nd : s.Nodup := fs.up.imp fun {a b} h e => by omega
  have lo : s.length ≤ c.length := by
    have nd2 : (s.map hue).Nodup := List.pairwise_map.mpr (List.Pairwise.imp_of_mem (fun {a b} ha hb hab e => by
      have la := fs.lt a ha
      have lb := fs.lt b hb
      exact h2 a b la.1 la.2 lb.1 lb.2 hab (fs.tie a ha b hb hab) e) nd)
    have := nodup_le nd2 (m := rangeI c.length) fun z hz => by
      obtain ⟨x, hx, rfl⟩ := List.mem_map.mp hz
      have lx := fs.lt x hx
      have := h1 x lx.1 lx.2
      exact rangeI_mem.mpr ⟨this.1, by omega⟩
    rw [List.length_map, rangeI_len] at this
    exact this
  omega
theorem foldB_ok {n : Int} {ts : List (Int × Int)} {o : List Int} (h : Steps ts (rangeI n.toNat) o []) : foldB n ts o = true := by
  obtain ⟨h1, h2⟩ := h.order rangeI_nd
  unfold foldB
  rw [dec_t h1, Bool.true_and, List.all_eq_true]
  intro a ha
  have ha := rangeI_mem.mp ha
  obtain ⟨i, rfl⟩ := Int.eq_ofNat_of_zero_le ha.1
  exact dec_t (h2 i (by omega))
theorem folds_ok {n : Int} {ts : List (Int × Int)} (g : Good n ts) {X : XF} {Q : R → S → Prop} (h : ∀ fin, Q (.d (.bool (dec (Fo n ts)))) fin) : m__law_b_folds [.d (webD n ts)] X Q := by
  have n0 := g.n0
  have n10 := g.n10
  have irr := good_no g
  unfold m__law_b_folds b__law_b_folds
  refine st_sem rfl ?_
  array_get_dec
  refine fold_ok g (fun o fin hs => ?_) (fun o M r fin h1 h2 h3 h4 h5 h6 => ?_)
  · have hF := fo_steps hs
    have ol : o.length ≤ 10 := by
      have := (hs.order rangeI_nd).1.length_eq
      rw [rangeI_len] at this
      omega
    rw [dec_t hF] at h
    array_get_dec
    refine is_fold_ok g (by omega) fun fin => ?_
    rw [foldB_ok hs]
    array_get_dec
    refine by_fold_ok g (fun o2 hue c fin k0 k1 k2 k3 k4 => ?_) (fun o2 M fin k1 k2 k3 => absurd (left_one k1 k2 hs rfl) k3)
    array_get_dec
    refine greatest_crowd2_ok g fun s fin hs2 => ?_
    have e := crowd_hues g k1 k2 k3 k4 hs2
    rw [show tupI s = PyData.tuple (s.map .int) from rfl]
    array_get_dec
    rw [List.length_map, e, decide_eq_true rfl]
    array_get_dec
    exact h _
  · have hF := fo_not h1 h2 h3
    have hM : ∀ z ∈ M, 0 ≤ z ∧ z < n := fun z hz => by have := rangeI_mem.mp (h1.sub.subset hz); omega
    have ndM : M.Nodup := rangeI_nd.sublist h1.sub
    rcases h4 with ⟨_, h4⟩ | ⟨p, hp, h4⟩
    · exact absurd h4 (ring_there irr ndM h3 h2)
    have hb := h4.bare irr h6
    rw [dec_f hF] at h
    array_get_dec
    refine st_sort_i (ns := r) rfl fun ks pm so => ?_
    have ndk : ks.Nodup := pm.nodup_iff.mpr hb.2.2.1
    have hs : Set' n ks := ⟨(List.Pairwise.and so ndk).imp fun {a b} h => by have := h.1; have := h.2; omega, fun z hz => h6 z (pm.mem_iff.mp hz)⟩
    have kl := pm.length_eq
    have k10 := hs.few n10
    array_get_dec
    refine cut_down_ok g hs fun qs fin hw => ?_
    have g2 : Good ks.length qs := hw.good (by omega) (by omega)
    have irr2 := good_no g2
    have no := ring_cut_no irr hb pm hs hw
    array_get_dec
    refine is_bare_ring_ok g (by omega) fun fin => ?_
    rw [dec_t hb]
    array_get_dec
    refine fold_ok g2 (fun o2 fin hs2 => absurd (fo_steps hs2) no) (fun o2 M2 r2 fin k1 k2 k3 k4 k5 k6 => ?_)
    array_get_dec
    refine ⟨by unfold lim62; omega, ?_⟩
    array_get_dec
    refine ⟨by rw [rangeD_len]; show _ ≤ 16777216; omega, ?_⟩
    array_get_dec
    rw [rangeD_map]
    refine comp_list PyData.int (fun _ => .bool false) _ (fun z hz kT hkT => ?_) ?_
    · have hz := rangeI_mem.mp hz
      array_get_dec
      refine neighbours_ok g2 ⟨hz.1, by omega⟩ fun fin => ?_
      array_get_dec
      rw [List.length_map, ring_cut_two irr2 hb pm hs hw hz.1 (by omega)]
      array_get_dec
      exact hkT
    array_get_dec
    refine st_any_map ?_
    rw [show ((rangeI ((ks.length : Int)).toNat).any fun _ => false) = false by simp]
    array_get_dec
    exact h _
theorem called_ok {ns : List Int} {F : Nat} {xs : List D} {n : Int} {ts : List (Int × Int)} (g : Good n ts) (hc : Cup ns (F + 10) xs) {X : XF} {Q : R → S → Prop}
    (h : ∀ qs ls xs', Cup ns F xs' → Good n qs → Bel n ls → (ls.length : Int) = n → (∀ p, p ∈ qs ↔ p ∈ ts.map (calls ls)) → Q (.d (webD n qs)) [.l xs', .d (webD n ts)]) : m__law_b_called [.l xs, .d (webD n ts)] X Q := by
  have hn0 := g.n0
  have n10 := g.n10
  have tf := good_few g
  unfold m__law_b_called b__law_b_called
  refine st_sem rfl ?_
  rw [show webD n ts = PyData.tuple [.int n, .tuple (ts.map pairD)] from rfl] at *
  generalize hW : PyData.tuple [.int n, .tuple (ts.map pairD)] = W at h ⊢
  refine st_join (fun s => s = [.l xs, .d W, .l [], .no, .no, .no, .no]) ?_ (fun k hk => by array_get_dec; exact hk _ rfl)
  rintro s rfl
  refine st_join (fun s => ∃ (ls : List Int) (xs : List D), s = [.l xs, .d W, .l (ls.map .int), .no, .no, .no, .no] ∧ Bel n ls ∧ (ls.length : Int) = n ∧ Cup ns F xs) ?_ (fun kq hkq => ?_)
  rotate_left
  · rw [← hW] at hkq ⊢
    array_get_dec
    refine ⟨by unfold lim62; omega, ?_⟩
    array_get_dec
    rw [hW] at hkq ⊢
    refine loop_range1 (hi := n) (fun k s => ∃ (ls : List Int) (xs : List D), s = [.l xs, .d W, .l (ls.map .int), .no, .no, .no, .no] ∧ Bel k ls ∧ (ls.length : Int) = k ∧ Cup ns (F + (n - k).toNat) xs) ?_ ?_ ⟨[], xs, rfl, ⟨fun i hi => (nomatch hi), .nil, by simp⟩, rfl, hc.less (by omega)⟩
    · rintro s ⟨ls, xs, rfl, hb, hl, hc⟩
      rw [show max 0 n = n by omega] at hb hl hc
      exact hkq _ ⟨ls, xs, rfl, hb, hl, hc.less (by omega)⟩
    · rintro k s kk hk hkn ⟨ls, xs, rfl, hb, hl, hc⟩ hkk
      refine st_nm ?_
      array_get_dec
      refine digit_ok (F := F + (n - (k + 1)).toNat) (hc.less (by omega)) (by omega) (by omega) fun r xs2 hc2 hr0 hr1 => ?_
      array_get_dec
      refine st_insert (by rw [List.length_map]; show _ < 16777216; omega) hr0 (by omega) ?_
      array_get_dec
      refine hkk _ ⟨ls.take r.toNat ++ [k] ++ ls.drop r.toNat, xs2, by simp [List.map_take, List.map_drop]; rfl, ⟨fun i hi => ?_, ?_, ?_⟩, ?_, hc2⟩
      · have : i ∈ ls ∨ i = k := by
          simp only [List.mem_append, List.mem_singleton] at hi
          rcases hi with (hi | hi) | hi
          · exact .inl (List.mem_of_mem_take hi)
          · exact .inr hi
          · exact .inl (List.mem_of_mem_drop hi)
        rcases this with hi | rfl
        · have := hb.lt i hi; omega
        · omega
      · have hp : (ls.take r.toNat ++ [k] ++ ls.drop r.toNat).Perm (k :: ls) := by
          rw [List.append_assoc]
          show (ls.take r.toNat ++ k :: ls.drop r.toNat).Perm _
          refine List.perm_middle.trans ?_
          rw [List.take_append_drop]
        refine hp.nodup_iff.mpr (List.nodup_cons.mpr ⟨fun hm => ?_, hb.nd⟩)
        have := hb.lt k hm
        omega
      · simp; omega
      · simp; omega
  rintro s ⟨ls, xs, rfl, hb, hl, hc⟩
  have hp : Prs n ts := ⟨g.ties, Up.nodup g.up⟩
  obtain ⟨g1, g2⟩ := calls_good hb hl hp
  rw [← hW] at h ⊢
  array_get_dec
  refine ⟨by rw [List.length_map]; show _ ≤ 16777216; omega, ?_⟩
  array_get_dec
  refine comp_list pairD (fun p => pairD (calls ls p)) _ (fun p hpm kT hkT => ?_) ?_
  · obtain ⟨p1, p2, p3⟩ := hp.lt p hpm
    rw [show pairD p = PyData.tuple [.int p.1, .int p.2] from rfl]
    array_get_dec
    refine st_ix_l (atZ_ok p1 (by omega)) ?_
    array_get_dec
    refine st_ix_l (atZ_ok (by omega) (by omega)) ?_
    array_get_dec
    refine st_ix_l (atZ_ok p1 (by omega)) ?_
    array_get_dec
    refine st_ix_l (atZ_ok (by omega) (by omega)) ?_
    array_get_dec
    exact hkT
  array_get_dec
  refine st_sort_p (ps := ts.map (calls ls)) (by rw [List.map_map]; rfl) fun qs hqp hqs => ?_
  array_get_dec
  have lq := hqp.length_eq
  rw [List.length_map] at lq
  exact h qs ls xs hc ⟨hn0, n10, fun p hm => g1 p (hqp.mem_iff.mp hm), strict_of hqp g2 hqs, by omega⟩ hb hl fun p => hqp.mem_iff
/-- what a web called anew ties -/
theorem called_tb {n : Int} {ts qs : List (Int × Int)} {ls : List Int} (g : Good n ts) (hb : Bel n ls) (hl : (ls.length : Int) = n) (hq : ∀ p, p ∈ qs ↔ p ∈ ts.map (calls ls)) {x y : Int} (x0 : 0 ≤ x) (x1 : x < n) (y0 : 0 ≤ y) (y1 : y < n) (ne : x ≠ y) : Tb qs (atZ ls x) (atZ ls y) = Tb ts x y := by
  have nd := hb.nd
  have inj : ∀ {a b : Int}, 0 ≤ a → a < n → 0 ≤ b → b < n → atZ ls a = atZ ls b → a = b := fun a0 a1 b0 b1 e => atZ_inj nd a0 (by omega) b0 (by omega) e
  have one : ∀ {x y : Int}, 0 ≤ x → x < y → y < n → (Tb qs (atZ ls x) (atZ ls y) = true ↔ (x, y) ∈ ts) := fun {x y} h0 h1 h2 => by
    unfold Tb
    rw [decide_eq_true_iff, hq, List.mem_map]
    constructor
    · rintro ⟨p, hp, e⟩
      have t := g.ties p hp
      unfold calls at e
      injection e with e1 e2
      have z : (atZ ls p.1 = atZ ls x ∧ atZ ls p.2 = atZ ls y) ∨ (atZ ls p.1 = atZ ls y ∧ atZ ls p.2 = atZ ls x) := by omega
      rcases z with ⟨a, b⟩ | ⟨a, b⟩
      · have ea := inj t.1 (by omega) h0 (by omega) a
        have eb := inj (by omega) t.2.2 (by omega) h2 b
        rw [← ea, ← eb]
        exact hp
      · have ea := inj t.1 (by omega) (by omega) h2 a
        have eb := inj (by omega) t.2.2 h0 (by omega) b
        omega
    · intro h
      exact ⟨(x, y), h, rfl⟩
  rw [Bool.eq_iff_iff]
  rcases Int.lt_or_gt_of_ne ne with q | q
  · rw [one x0 q y1, tb_iff q]
  · rw [Tb_symm, one y0 q x1, Tb_symm, tb_iff q]
theorem bel_perm {n : Int} {ls : List Int} (hb : Bel n ls) (hl : (ls.length : Int) = n) {z : Int} (z0 : 0 ≤ z) (z1 : z < n) : z ∈ ls := by
  refine Classical.byContradiction fun no => ?_
  have nd : (z :: ls).Nodup := List.nodup_cons.mpr ⟨no, hb.nd⟩
  have := nodup_le nd (m := rangeI n.toNat) fun w hw => by
    rcases List.mem_cons.mp hw with rfl | hw
    · exact rangeI_mem.mpr ⟨z0, by omega⟩
    · have := hb.lt w hw
      exact rangeI_mem.mpr ⟨this.1, by omega⟩
  rw [List.length_cons, rangeI_len] at this
  omega
theorem called_fo {n : Int} {ts qs : List (Int × Int)} {ls : List Int} (g : Good n ts) (g2 : Good n qs) (hb : Bel n ls) (hl : (ls.length : Int) = n) (hq : ∀ p, p ∈ qs ↔ p ∈ ts.map (calls ls)) : Fo n qs ↔ Fo n ts := by
  have r : ∀ {z : Int}, z ∈ rangeI n.toNat → 0 ≤ z ∧ z < n := fun hz => by have := rangeI_mem.mp hz; omega
  constructor
  · intro h
    refine Ch.pull (us := qs) (K := rangeI n.toNat) h (fun z => atZ ls z) (good_no g) (fun x hx => ?_) (fun x hx y hy e => ?_) (fun x hx y hy ne => called_tb g hb hl hq (r hx).1 (r hx).2 (r hy).1 (r hy).2 ne)
    · have := hb.lt _ (atZ_mem (ls := ls) (r hx).1 (by have := (r hx).2; omega))
      exact rangeI_mem.mpr ⟨this.1, by omega⟩
    · exact atZ_inj hb.nd (r hx).1 (by have := (r hx).2; omega) (r hy).1 (by have := (r hy).2; omega) e
  · intro h
    refine Ch.pull (us := ts) (K := rangeI n.toNat) h (ix ls) (good_no g2) (fun x hx => ?_) (fun x hx y hy e => ix_inj (bel_perm hb hl (r hx).1 (r hx).2) (bel_perm hb hl (r hy).1 (r hy).2) e) (fun x hx y hy ne => ?_)
    · have := ix_ok (bel_perm hb hl (r hx).1 (r hx).2)
      exact rangeI_mem.mpr ⟨this.1, by omega⟩
    · have mx := bel_perm hb hl (r hx).1 (r hx).2
      have my := bel_perm hb hl (r hy).1 (r hy).2
      have a := ix_ok mx
      have b := ix_ok my
      have := called_tb g hb hl hq a.1 (by omega) b.1 (by omega) (fun e => ne (ix_inj mx my e))
      rw [a.2.2, b.2.2] at this
      exact this.symm
/-- two webs side by side -/
theorem beside_fo {n m : Int} {ts us qs : List (Int × Int)} (g : Good n ts) (g2 : Good m us) (g3 : Good (n + m) qs) (hw : Whole (n + m) (dueF n ts us false) qs) : Fo (n + m) qs ↔ (Fo n ts ∧ Fo m us) := by
  have n0 := g.n0
  have m0 := g2.n0
  have irr := good_no g3
  have low : ∀ {x y : Int}, 0 ≤ x → x < n → 0 ≤ y → y < n → x ≠ y → Tb qs x y = Tb ts x y := fun {x y} x0 x1 y0 y1 ne => by
    have one : ∀ {x y : Int}, 0 ≤ x → x < y → y < n → Tb qs x y = Tb ts x y := fun {x y} h0 h1 h2 => by
      rw [Bool.eq_iff_iff, tb_iff h1, tb_iff h1, hw.mem]
      unfold dueF
      dsimp only
      constructor
      · rintro ⟨_, _, _, q | q | q⟩
        · exact q.2
        · omega
        · omega
      · exact fun q => ⟨h0, h1, by omega, .inl ⟨h2, q⟩⟩
    rcases Int.lt_or_gt_of_ne ne with q | q
    · exact one x0 q y1
    · rw [Tb_symm, one y0 q x1, Tb_symm]
  have high : ∀ {x y : Int}, n ≤ x → x < n + m → n ≤ y → y < n + m → x ≠ y → Tb qs x y = Tb us (x - n) (y - n) := fun {x y} x0 x1 y0 y1 ne => by
    have one : ∀ {x y : Int}, n ≤ x → x < y → y < n + m → Tb qs x y = Tb us (x - n) (y - n) := fun {x y} h0 h1 h2 => by
      rw [Bool.eq_iff_iff, tb_iff h1, tb_iff (show x - n < y - n by omega), hw.mem]
      unfold dueF
      dsimp only
      constructor
      · rintro ⟨_, _, _, q | q | q⟩
        · omega
        · exact q.2
        · omega
      · exact fun q => ⟨by omega, h1, h2, .inr (.inl ⟨h0, q⟩)⟩
    rcases Int.lt_or_gt_of_ne ne with q | q
    · exact one x0 q y1
    · rw [Tb_symm, one y0 q x1, Tb_symm]
  have cross : ∀ {x y : Int}, 0 ≤ x → x < n → n ≤ y → y < n + m → Tb qs x y = false := fun {x y} x0 x1 y0 y1 => by
    cases e : Tb qs x y with
    | false => rfl
    | true =>
      rw [tb_iff (show x < y by omega), hw.mem] at e
      unfold dueF at e
      dsimp only at e
      rcases e with ⟨_, _, _, q | q | q⟩
      · omega
      · omega
      · exact absurd q.2.2 (by decide)
  have rn : ∀ {z : Int}, z ∈ rangeI n.toNat → 0 ≤ z ∧ z < n := fun hz => by have := rangeI_mem.mp hz; omega
  have rm : ∀ {z : Int}, z ∈ rangeI m.toNat → 0 ≤ z ∧ z < m := fun hz => by have := rangeI_mem.mp hz; omega
  constructor
  · intro h
    refine ⟨?_, ?_⟩
    · exact Ch.pull (us := qs) (K := rangeI (n + m).toNat) h (fun z => z) (good_no g) (fun x hx => rangeI_mem.mpr ⟨(rn hx).1, by have := (rn hx).2; omega⟩) (fun x hx y hy e => e) (fun x hx y hy ne => low (rn hx).1 (rn hx).2 (rn hy).1 (rn hy).2 ne)
    · refine Ch.pull (us := qs) (K := rangeI (n + m).toNat) h (fun z => z + n) (good_no g2) (fun x hx => ?_) (fun x hx y hy e => by omega) (fun x hx y hy ne => ?_)
      · have := rm hx
        exact rangeI_mem.mpr ⟨by omega, by omega⟩
      · have a := rm hx
        have b := rm hy
        rw [high (by omega) (by omega) (by omega) (by omega) (by omega), show x + n - n = x by omega, show y + n - n = y by omega]
  · rintro ⟨h1, h2⟩
    have hA : Ch qs (rangeI n.toNat) := Ch.pull (us := ts) (K := rangeI n.toNat) h1 (fun z => z) irr (fun x hx => hx) (fun x hx y hy e => e) (fun x hx y hy ne => (low (rn hx).1 (rn hx).2 (rn hy).1 (rn hy).2 ne).symm)
    have hB : Ch qs ((rangeI m.toNat).map fun z => z + n) := by
      refine Ch.pull (us := us) (K := rangeI m.toNat) h2 (fun z => z - n) irr (fun x hx => ?_) (fun x hx y hy e => by omega) (fun x hx y hy ne => ?_)
      · obtain ⟨z, hz, rfl⟩ := List.mem_map.mp hx
        rw [show z + n - n = z by omega]
        exact hz
      · obtain ⟨z, hz, rfl⟩ := List.mem_map.mp hx
        obtain ⟨w, hw2, rfl⟩ := List.mem_map.mp hy
        have a := rm hz
        have b := rm hw2
        exact (high (by omega) (by omega) (by omega) (by omega) ne).symm
    refine ch_join hA hB (fun x hx y hy => ?_) fun z hz => ?_
    · obtain ⟨w, hw2, rfl⟩ := List.mem_map.mp hy
      have a := rn hx
      have b := rm hw2
      exact cross a.1 a.2 (by omega) (by omega)
    · have := rangeI_mem.mp hz
      by_cases c : z < n
      · exact .inl (rangeI_mem.mpr ⟨this.1, by omega⟩)
      · exact .inr (List.mem_map.mpr ⟨z - n, rangeI_mem.mpr ⟨by omega, by omega⟩, by omega⟩)
theorem atI_at {ks : List Int} {i : Int} (h0 : 0 ≤ i) (h1 : i < (ks.length : Int)) : L2.atI ks i = some (atZ ks i) := by
  obtain ⟨j, rfl⟩ := Int.eq_ofNat_of_zero_le h0
  have hj : j < ks.length := by omega
  rw [L2.atI_nat (List.getElem?_eq_getElem hj)]
  unfold atZ
  rw [Int.toNat_natCast, List.getD_eq_getElem?_getD, List.getElem?_eq_getElem hj]
  rfl
theorem is_rising_F {ks : List Int} (hs : ks.Pairwise (· < ·)) (hl : ks.length ≤ 1000) {X : XF} {Q : R → S → Prop} (h : ∀ fin, Q (.d (.bool true)) fin) : m_is_rising [.d (tfD ks)] X Q := by
  unfold m_is_rising b_is_rising
  refine st_sem rfl ?_
  array_get_dec
  refine ⟨by unfold lim62; omega, ?_⟩
  array_get_dec
  refine ⟨by rw [rangeD_len]; show _ ≤ 16777216; omega, ?_⟩
  array_get_dec
  rw [rangeD_map]
  refine comp_list PyData.int (fun _ => .bool true) _ (fun k hk kT hkT => ?_) ?_
  · have hk := rangeI_mem.mp hk
    have lt : atZ ks k < atZ ks (k + 1) := by
      have e1 : atZ ks k = ks[k.toNat]'(by omega) := by simp [atZ, List.getElem?_eq_getElem (show k.toNat < ks.length by omega)]
      have e2 : atZ ks (k + 1) = ks[k.toNat + 1]'(by omega) := by
        unfold atZ
        rw [show (k + 1).toNat = k.toNat + 1 by omega]
        simp [List.getElem?_eq_getElem (show k.toNat + 1 < ks.length by omega)]
      rw [e1, e2]
      exact List.pairwise_iff_getElem.mp hs _ _ _ _ (by omega)
    array_get_dec
    refine st_ixDT_f (atI_at hk.1 (by omega)) ?_
    array_get_dec
    refine st_ixDT_f (atI_at (i := k + 1) (by omega) (by omega)) ?_
    array_get_dec
    rw [decide_eq_true lt]
    array_get_dec
    exact hkT
  · array_get_dec
    refine st_all_map ?_
    rw [show ((rangeI ((ks.length : Int) - 1).toNat).all fun _ => true) = true by simp]
    array_get_dec
    exact h _
theorem is_set_F {n : Int} {ts : List (Int × Int)} {ks : List Int} (hs : Set' n ks) (h10 : n ≤ 10) {X : XF} {Q : R → S → Prop} (h : ∀ fin, Q (.d (.bool true)) fin) : m_is_set [.d (webD n ts), .d (tfD ks)] X Q := by
  unfold m_is_set b_is_set
  have few := hs.few h10
  refine st_sem rfl ?_
  array_get_dec
  refine ⟨by rw [List.length_map]; show _ ≤ 16777216; omega, ?_⟩
  array_get_dec
  refine comp_true (fun x hx kT hk => ?_) ?_
  · obtain ⟨z, hz, rfl⟩ := List.mem_map.mp hx
    array_get_dec
    refine is_below_ok fun fin => ?_
    rw [decide_eq_true (hs.lt z hz)]
    array_get_dec
    exact hk
  · array_get_dec
    refine st_all_true ?_
    array_get_dec
    refine is_rising_F hs.up (by omega) fun fin => ?_
    array_get_dec
    exact h _
theorem need_set_F {n : Int} {ts : List (Int × Int)} {ks : List Int} (hs : Set' n ks) (h10 : n ≤ 10) {X : XF} {Q : R → S → Prop} (h : ∀ fin, Q (.d .none) fin) : m_need_set [.d (webD n ts), .d (tfD ks)] X Q := by
  unfold m_need_set b_need_set
  refine st_sem rfl ?_
  array_get_dec
  refine is_set_F hs h10 fun fin => ?_
  array_get_dec
  exact h _
theorem cut_in_F {n : Int} {ts : List (Int × Int)} {ks : List Int} (g : Good n ts) (hs : Set' n ks) {X : XF} {Q : R → S → Prop} (h : ∀ qs fin, Whole ks.length (fun i j => (atZ ks i, atZ ks j) ∈ ts) qs → Q (.d (webD ks.length qs)) fin) : m_cut_in [.d (webD n ts), .d (tfD ks)] X Q := by
  unfold m_cut_in b_cut_in
  have h10 := g.n10
  have few := hs.few h10
  have pl := prs_len (rangeI ks.length)
  rw [rangeI_len] at pl
  have pl2 : ks.length * ks.length ≤ 10 * 10 := Nat.mul_le_mul (by omega) (by omega)
  have pu := prs_up (rangeI_up (n := ks.length))
  refine st_sem rfl ?_
  array_get_dec
  refine ⟨⟨by omega, by omega, by omega, by omega, by omega⟩, ?_⟩
  rw [rangeD_map, Int.toNat_natCast]
  array_get_dec
  refine pairs_of_ok (by rw [rangeI_len]; omega) fun fin => ?_
  array_get_dec
  refine ⟨by rw [List.length_map]; show _ ≤ 16777216; omega, ?_⟩
  array_get_dec
  refine comp_filter pairD pairD (fun p => decide ((atZ ks p.1, atZ ks p.2) ∈ ts)) _ (fun p hp kT kF hT hF => ?_) ?_
  · obtain ⟨p1, p2, p3⟩ := (prs_mem rangeI_up).mp hp
    have p1 := rangeI_mem.mp p1
    have p2 := rangeI_mem.mp p2
    array_get_dec
    refine st_ixDT_f (atI_at p1.1 (by omega)) ?_
    array_get_dec
    refine st_ixDT_f (atI_at p2.1 (by omega)) ?_
    array_get_dec
    refine tied_in_ok fun fin => ?_
    have lt := hs.at_lt p1.1 p3 (by omega)
    rw [show min (atZ ks p.1) (atZ ks p.2) = atZ ks p.1 by omega, show max (atZ ks p.1) (atZ ks p.2) = atZ ks p.2 by omega]
    array_get_dec
    refine st_ite (fun q => ?_) (fun q => ?_)
    · array_get_dec
      exact hT q
    · exact hF q
  · array_get_dec
    have sub := List.filter_sublist (p := fun p : Int × Int => decide ((atZ ks p.1, atZ ks p.2) ∈ ts)) (l := prs (rangeI ks.length))
    have fu : Up ((prs (rangeI ks.length)).filter fun p => decide ((atZ ks p.1, atZ ks p.2) ∈ ts)) := List.Pairwise.sublist sub pu
    refine web_of_okN (by have := sub.length_le; omega) (fun p hp => ((prs_mem rangeI_up).mp (sub.subset hp)).2.2) fu.nodup fun qs fin hu hm => ?_
    array_get_dec
    refine h qs _ (Whole.of (by omega) hu fun p => ?_)
    rw [hm, List.mem_filter, prs_mem rangeI_up, rangeI_mem, rangeI_mem]
    simp only [decide_eq_true_eq]
    constructor
    · rintro ⟨⟨a, b, c⟩, d⟩; exact ⟨a.1, c, by omega, d⟩
    · rintro ⟨a, b, c, d⟩; exact ⟨⟨⟨a, by omega⟩, ⟨by omega, by omega⟩, b⟩, d⟩
theorem cut_down_F {n : Int} {ts : List (Int × Int)} {ks : List Int} (g : Good n ts) (hs : Set' n ks) {X : XF} {Q : R → S → Prop} (h : ∀ qs fin, Whole ks.length (fun i j => (atZ ks i, atZ ks j) ∈ ts) qs → Q (.d (webD ks.length qs)) fin) : m_cut_down [.d (webD n ts), .d (tfD ks)] X Q := by
  unfold m_cut_down b_cut_down
  refine st_sem rfl ?_
  array_get_dec
  refine need_web_ok g fun fin => ?_
  array_get_dec
  refine need_set_F hs g.n10 fun fin => ?_
  array_get_dec
  refine cut_in_F g hs fun qs fin hq => ?_
  array_get_dec
  exact h qs _ hq
end Lk18
namespace Lk18
open PySem Hs
local macro_rules
  | `(tactic| sizeOf_list_dec) => `(tactic| first
    | with_reducible refine st_seq ?_ | with_reducible refine st_asg ?_ | with_reducible refine st_cons ?_ | with_reducible refine st_nil ?_ | with_reducible refine st_C ?_ | with_reducible refine st_op ?_
    | with_reducible refine st_var_d ?_ | with_reducible refine st_var_l ?_ | with_reducible refine st_var_ll ?_ | with_reducible refine st_var_dc ?_
    | with_reducible refine st_look_d ?_ | with_reducible refine st_look_top ?_ | with_reducible refine st_look_top_d ?_ | with_reducible refine st_look_own ?_ | with_reducible refine st_look_top_dc ?_ | with_reducible refine st_look_own_dc ?_ | with_reducible refine st_put_d ?_ | with_reducible refine st_put_own ?_ | with_reducible refine st_put_top_l ?_ | with_reducible refine st_put_top_ll ?_ | with_reducible refine st_put_top_dc ?_
    | ((with_reducible refine st_callF ?_ ?_); eq_refl) | with_reducible refine st_call ?_ | with_reducible refine st_putK_nil ?_ | with_reducible refine st_putK_t ?_ | with_reducible refine st_putK_f ?_ | with_reducible refine st_putK_td ?_ | with_reducible refine st_putK_to ?_ | with_reducible refine st_bind_nil ?_ | with_reducible refine st_bind_f ?_ | with_reducible refine st_bind_tt ?_ | with_reducible refine st_bind_td ?_ | with_reducible refine st_bind_to ?_
    | with_reducible refine st_frz_d ?_ | with_reducible refine st_frz_own ?_ | with_reducible refine st_frz_top ?_ | with_reducible refine st_frz_own_ll ?_ | with_reducible refine st_frz_own_dc ?_ | with_reducible refine st_frz_top_ll ?_ | with_reducible refine st_frz_top_dc ?_ | with_reducible refine st_frzAll_nil ?_ | with_reducible refine st_frzAll_cons ?_
    | with_reducible refine st_if ?_ | with_reducible refine st_B ?_ | with_reducible refine st_and ?_ | with_reducible refine st_or ?_ | with_reducible refine st_not ?_ | with_reducible refine st_yes ?_ | with_reducible refine st_isB ?_ | with_reducible refine st_t ?_ | with_reducible refine st_f ?_ | ((with_reducible refine st_iteT ?_ ?_); decide) | ((with_reducible refine st_iteF ?_ ?_); decide)
    | with_reducible refine st_nt ?_ | with_reducible refine st_nf ?_
    | with_reducible refine st_ret ?_ | with_reducible refine st_next ?_ | with_reducible refine st_retN ?_ | with_reducible refine st_drop ?_ | with_reducible refine st_break ?_ | with_reducible refine st_raise ?_
    | with_reducible refine st_out_d ?_ | with_reducible refine st_out_own ?_ | with_reducible refine st_out_top ?_
    | with_reducible refine st_tup ?_ | with_reducible refine st_lst ?_ | with_reducible refine st_un ?_ | with_reducible refine st_blt ?_ | with_reducible refine st_lookAll_nil ?_ | with_reducible refine st_lookAll_cons ?_
    | with_reducible refine st_unp ?_ | with_reducible refine st_par ?_ | with_reducible refine st_setIx ?_ | with_reducible refine st_onL ?_ | with_reducible refine st_for ?_ | with_reducible refine st_wipe_nil ?_ | with_reducible refine st_wipe_cons ?_ | with_reducible refine st_andV ?_ | with_reducible refine st_orV ?_ | with_reducible refine st_notV ?_ | with_reducible refine st_ifE ?_ | with_reducible refine st_chain ?_
    | with_reducible refine st_sl ?_ | with_reducible refine st_noPart ?_ | with_reducible refine st_part ?_ | with_reducible refine st_lc ?_ | with_reducible refine st_lm ?_
    | with_reducible refine st_seqI ?_ | with_reducible refine st_range1 ?_ | with_reducible refine st_range2 ?_ | with_reducible refine st_enum ?_ | with_reducible refine st_zip ?_
    | with_reducible refine st_nm ?_ | with_reducible refine st_tp ?_ | with_reducible refine st_tps_nil ?_ | with_reducible refine st_tps_cons ?_
    | ((with_reducible refine st_mod_i ?_ ?_); (first | decide | omega)) | ((with_reducible refine st_fdiv_i ?_ ?_); decide) 
    | with_reducible refine st_add_i ?_ | with_reducible refine st_sub_i ?_ | with_reducible refine st_neg_i ?_ | with_reducible refine st_eq_i ?_ | with_reducible refine st_ne_i ?_ | with_reducible refine st_eq_str ?_ | with_reducible refine st_ne_str ?_ | with_reducible refine st_eq_b ?_ | with_reducible refine st_ne_b ?_ | with_reducible refine st_lt_i ?_ | with_reducible refine st_le_i ?_ | with_reducible refine st_gt_i ?_ | with_reducible refine st_ge_i ?_
    | with_reducible refine st_is_n ?_ | with_reducible refine st_isNot_n ?_ | with_reducible refine st_is_b ?_ | with_reducible refine st_isNot_b ?_ | ((with_reducible refine st_ix_l (x := ?_) ?_ ?_); rotate_left; eq_refl) | ((with_reducible refine st_ix_t (x := ?_) ?_ ?_); rotate_left; eq_refl) | with_reducible refine st_len_l ?_ | with_reducible refine st_len_t ?_ | with_reducible refine st_len_lit ?_
    | with_reducible refine st_abs ?_ | with_reducible refine st_max2 ?_ | with_reducible refine st_min2 ?_ | with_reducible refine st_int_i ?_ | with_reducible refine st_int_b ?_ | with_reducible refine st_tuple_l ?_ | with_reducible refine st_tuple_t ?_ | with_reducible refine st_list_l ?_ | with_reducible refine st_list_t ?_ | ((with_reducible refine st_isT ?_ ?_); eq_refl) | ((with_reducible refine st_isTT ?_ ?_); eq_refl) | ((with_reducible refine st_isTF ?_ ?_); eq_refl) | ((with_reducible refine st_isNT ?_ ?_); eq_refl) | ((with_reducible refine st_isNF ?_ ?_); eq_refl)
    | with_reducible refine st_rg1 ?_ | with_reducible refine st_rg2 ?_ | with_reducible refine st_enumL ?_ | with_reducible refine st_zipS ?_ | with_reducible refine st_rev_l ?_ | with_reducible refine st_rev_t ?_
    | with_reducible refine st_ne_ll ?_ | with_reducible refine st_ne_lit ?_ | with_reducible refine st_in_pt ?_ | with_reducible refine st_in_pl ?_
    | with_reducible refine st_sl_l ?_ | with_reducible refine st_sl_t ?_
    | ((with_reducible refine st_iteLen ?_ ?_); eq_refl) | ((with_reducible refine st_iteNLen ?_ ?_); eq_refl) | with_reducible refine st_iteBB ?_ | ((with_reducible refine st_iteND ?_ ?_); omega) | ((with_reducible refine st_iteNF ?_ ?_); omega)
    | ((with_reducible refine st_iteT (decide_eq_true ?_) ?_); omega) | ((with_reducible refine st_iteF (decide_eq_false ?_) ?_); omega))
local macro_rules
  | `(tactic| sizeOf_list_dec) => `(tactic| with_reducible refine stepTo ?_)
local macro_rules
  | `(tactic| array_get_dec) => `(tactic| repeat sizeOf_list_dec)
local macro_rules
  | `(tactic| sizeOf_list_dec) => `(tactic| first | with_reducible refine st_ix2_l ?_ | with_reducible refine st_ix2_t ?_ | with_reducible refine st_ix2_s ?_ | with_reducible refine st_ix2_lit ?_ | with_reducible refine st_inK_l ?_ | with_reducible refine st_inK_t ?_ | with_reducible refine st_ninK_l ?_ | with_reducible refine st_ninK_t ?_ | with_reducible refine st_setD ?_ | with_reducible refine st_onDc ?_ | with_reducible refine st_dget2 ?_ | with_reducible refine st_emT ?_ | with_reducible refine st_emD ?_ | with_reducible refine st_disp1 ?_ | with_reducible refine st_disp1k ?_ | with_reducible refine st_range3 ?_ | with_reducible refine st_bor ?_ | with_reducible refine st_borT ?_ | with_reducible refine st_bindT_nil ?_ | with_reducible refine st_bindT_d ?_ | with_reducible refine st_bindT_o ?_ | with_reducible refine st_bindT_t ?_ | with_reducible refine st_toPs_nil ?_ | with_reducible refine st_toPs_d ?_ | with_reducible refine st_toPs_l ?_ | with_reducible refine st_toPs_dc ?_ | with_reducible refine st_tupO ?_ | with_reducible refine st_var_tp ?_ | with_reducible refine st_frz_own_tp ?_ | with_reducible refine st_frz_top_tp ?_ | with_reducible refine st_lmP ?_ | ((with_reducible refine st_onP ?_ ?_); eq_refl) | with_reducible refine st_flat_b ?_ | with_reducible refine st_flat_i ?_)
local macro_rules
  | `(tactic| sizeOf_list_dec) => `(tactic| first | with_reducible refine st_lenT_f ?_ | with_reducible refine st_lenT ?_ | with_reducible refine st_ixDT_t ?_ | with_reducible refine st_ixDT_l ?_ | with_reducible refine st_inT_f ?_ | with_reducible refine st_inT2 ?_ | with_reducible refine st_isT_f ?_ | with_reducible refine st_isT2 ?_ | with_reducible refine st_seqT ?_ | with_reducible refine st_seqT_l ?_ | with_reducible refine st_seqT_t ?_ | with_reducible refine st_seqT_f ?_ | with_reducible refine st_tix ?_)
local macro_rules
  | `(tactic| sizeOf_list_dec) => `(tactic| with_reducible refine is_whole_ok fun _ => ?_)
local macro_rules
  | `(tactic| sizeOf_list_dec) => `(tactic| first | with_reducible refine st_in_il ?_ | with_reducible refine st_in_it ?_ | with_reducible refine st_notIn_il ?_ | with_reducible refine st_notIn_it ?_ | with_reducible refine st_ne_ll ?_)
local macro_rules
  | `(tactic| sizeOf_list_dec) => `(tactic| first | with_reducible refine st_lcK ?_ | with_reducible refine st_rowOf ?_)
def Elim (ts : List (Int × Int)) : List Int → Prop
  | [] => True
  | p :: r => (∀ x ∈ r, ∀ y ∈ r, x ≠ y → Tb ts p x = true → Tb ts p y = true → Tb ts x y = true) ∧ Elim ts r
theorem steps_mem {ts : List (Int × Int)} : ∀ {L M o : List Int}, Steps ts L o M → ∀ z ∈ o, z ∈ L
  | _, _, _, .nil, z, h => nomatch h
  | _, _, _, .cons h1 _ r, z, h => by
    rcases List.mem_cons.mp h with rfl | h
    · exact h1
    · exact (out_mem.mp (steps_mem r z h)).1
theorem steps_elim {ts : List (Int × Int)} : ∀ {L M o : List Int}, Steps ts L o M → Elim ts o
  | _, _, _, .nil => trivial
  | L, _, _, .cons (p := p) h1 h2 r => by
    refine ⟨fun x hx y hy ne t1 t2 => ?_, steps_elim r⟩
    exact tied_anyP h2 (List.mem_filter.mpr ⟨(out_mem.mp (steps_mem r x hx)).1, t1⟩) (List.mem_filter.mpr ⟨(out_mem.mp (steps_mem r y hy)).1, t2⟩) ne
theorem elim_filter {ts : List (Int × Int)} {f : Int → Bool} : ∀ {o : List Int}, Elim ts o → Elim ts (o.filter f)
  | [], _ => trivial
  | p :: r, h => by
    rw [List.filter_cons]
    split
    · exact ⟨fun x hx y hy => h.1 x (List.mem_filter.mp hx).1 y (List.mem_filter.mp hy).1, elim_filter h.2⟩
    · exact elim_filter h.2
theorem elim_map {ts qs : List (Int × Int)} {φ : Int → Int} (irr : ∀ z, Tb qs z z = false) : ∀ {f : List Int}, (∀ x ∈ f, ∀ y ∈ f, φ x = φ y → x = y) → (∀ x ∈ f, ∀ y ∈ f, x ≠ y → Tb qs (φ x) (φ y) = Tb ts x y) → Elim ts f → Elim qs (f.map φ)
  | [], _, _, _ => trivial
  | p :: r, inj, tie, h => by
    refine ⟨fun x hx y hy ne t1 t2 => ?_, elim_map irr (fun x hx y hy => inj x (List.mem_cons_of_mem _ hx) y (List.mem_cons_of_mem _ hy)) (fun x hx y hy => tie x (List.mem_cons_of_mem _ hx) y (List.mem_cons_of_mem _ hy)) h.2⟩
    obtain ⟨a, ha, rfl⟩ := List.mem_map.mp hx
    obtain ⟨b, hb, rfl⟩ := List.mem_map.mp hy
    have pa : p ≠ a := fun e => by rw [e, irr] at t1; cases t1
    have pb : p ≠ b := fun e => by rw [e, irr] at t2; cases t2
    have ab : a ≠ b := fun e => ne (by rw [e])
    have pm : p ∈ p :: r := List.mem_cons_self
    have am : a ∈ p :: r := List.mem_cons_of_mem _ ha
    have bm : b ∈ p :: r := List.mem_cons_of_mem _ hb
    rw [tie p pm a am pa] at t1
    rw [tie p pm b bm pb] at t2
    rw [tie a am b bm ab]
    exact h.1 a ha b hb ab t1 t2
theorem elim_tied {ts : List (Int × Int)} : ∀ {o : List Int}, o.Nodup → Elim ts o → ∀ i : Nat, i < o.length → Tied ts ((o.drop (i + 1)).filter (Tb ts (atZ o i)))
  | [], _, _, i, hi => absurd hi (by simp)
  | p :: r, nd, h, i, hi => by
    obtain ⟨_, nd2⟩ := List.nodup_cons.mp nd
    cases i with
    | zero =>
      have e : atZ (p :: r) ((0 : Nat) : Int) = p := by simp [atZ]
      rw [e]
      exact (simp_iff nd2).mpr fun x hx y hy ne t1 t2 => h.1 x hx y hy ne t1 t2
    | succ i =>
      have e : atZ (p :: r) ((i + 1 : Nat) : Int) = atZ r i := by simp [atZ]
      rw [e]
      exact elim_tied nd2 h.2 i (by simpa using hi)
theorem cut_order {n : Int} {ts qs : List (Int × Int)} {ks o : List Int} (irr : ∀ z, Tb qs z z = false) (hs : Set' n ks) (hw : Whole ks.length (fun i j => (atZ ks i, atZ ks j) ∈ ts) qs) (h : Steps ts (rangeI n.toNat) o []) :
    foldB ks.length qs ((o.filter fun z => decide (z ∈ ks)).map (ix ks)) = true := by
  have pm := (h.order rangeI_nd).1
  have ndo : o.Nodup := pm.nodup_iff.mpr rangeI_nd
  have ndk : ks.Nodup := hs.up.imp fun {a b} h e => by omega
  have inK : ∀ x ∈ (o.filter fun z => decide (z ∈ ks)), x ∈ ks := fun x hx => of_decide_eq_true (List.mem_filter.mp hx).2
  have inj : ∀ x ∈ (o.filter fun z => decide (z ∈ ks)), ∀ y ∈ (o.filter fun z => decide (z ∈ ks)), ix ks x = ix ks y → x = y := fun x hx y hy e => ix_inj (inK x hx) (inK y hy) e
  have nd2 : ((o.filter fun z => decide (z ∈ ks)).map (ix ks)).Nodup := List.pairwise_map.mpr (List.Pairwise.imp_of_mem (fun {a b} ha hb hab e => hab (inj a ha b hb e)) (ndo.filter _))
  have el : Elim qs ((o.filter fun z => decide (z ∈ ks)).map (ix ks)) := elim_map (ts := ts) irr inj (fun x hx y hy ne => by
    have a := ix_ok (inK x hx)
    have b := ix_ok (inK y hy)
    rw [cut_tb hs hw a.1 a.2.1 b.1 b.2.1 (fun e => ne (inj x hx y hy e)), a.2.2, b.2.2]) (elim_filter (steps_elim h))
  have p2 : ((o.filter fun z => decide (z ∈ ks)).map (ix ks)).Perm (rangeI ((ks.length : Int)).toNat) := (List.perm_ext_iff_of_nodup nd2 rangeI_nd).mpr fun z => by
    rw [List.mem_map, rangeI_mem]
    constructor
    · rintro ⟨x, hx, rfl⟩
      have := ix_ok (inK x hx)
      exact ⟨this.1, by omega⟩
    · rintro ⟨z0, z1⟩
      have m : atZ ks z ∈ ks := atZ_mem z0 (by omega)
      have lt := hs.lt _ m
      exact ⟨atZ ks z, List.mem_filter.mpr ⟨pm.mem_iff.mpr (rangeI_mem.mpr ⟨lt.1, by omega⟩), decide_eq_true m⟩, ix_at ndk z0 (by omega)⟩
  unfold foldB
  rw [dec_t p2, Bool.true_and, List.all_eq_true]
  intro a ha
  have ha := rangeI_mem.mp ha
  obtain ⟨i, rfl⟩ := Int.eq_ofNat_of_zero_le ha.1
  exact dec_t (elim_tied nd2 el i (by omega))
theorem with_fo {n : Int} {ts qs : List (Int × Int)} {so : List Int} (g : Good n ts) (g2 : Good (n + 1) qs) (hs : Set' n so) (ht : Tied ts so) (mem : ∀ p, p ∈ qs ↔ p ∈ ts ∨ p.1 ∈ so ∧ p.2 = n) : Fo (n + 1) qs ↔ Fo n ts := by
  have n0 := g.n0
  have irr := good_no g2
  have rn : ∀ {z : Int}, z ∈ rangeI n.toNat → 0 ≤ z ∧ z < n := fun hz => by have := rangeI_mem.mp hz; omega
  have low : ∀ {x y : Int}, 0 ≤ x → x < n → 0 ≤ y → y < n → x ≠ y → Tb qs x y = Tb ts x y := fun {x y} x0 x1 y0 y1 ne => by
    have one : ∀ {x y : Int}, x < y → y < n → Tb qs x y = Tb ts x y := fun {x y} h1 h2 => by
      rw [Bool.eq_iff_iff, tb_iff h1, tb_iff h1, mem]
      dsimp only
      constructor
      · rintro (q | q)
        · exact q
        · omega
      · exact fun q => .inl q
    rcases Int.lt_or_gt_of_ne ne with q | q
    · exact one q y1
    · rw [Tb_symm, one q x1, Tb_symm]
  have new : ∀ {x : Int}, x < n → Tb qs n x = true → x ∈ so := fun {x} h1 t => by
    rw [Tb_symm, tb_iff h1, mem] at t
    rcases t with q | q
    · have := g.ties _ q
      dsimp only at this
      omega
    · exact q.1
  constructor
  · intro h
    exact Ch.pull (us := qs) (K := rangeI (n + 1).toNat) h (fun z => z) (good_no g) (fun x hx => rangeI_mem.mpr ⟨(rn hx).1, by have := (rn hx).2; omega⟩) (fun x hx y hy e => e) (fun x hx y hy ne => low (rn hx).1 (rn hx).2 (rn hy).1 (rn hy).2 ne)
  · intro h
    have hA : Ch qs (rangeI n.toNat) := Ch.pull (us := ts) (K := rangeI n.toNat) h (fun z => z) irr (fun x hx => hx) (fun x hx y hy e => e) (fun x hx y hy ne => (low (rn hx).1 (rn hx).2 (rn hy).1 (rn hy).2 ne).symm)
    refine ch_one (w := n) hA irr (fun x hx y hy ne t1 t2 => ?_) fun z hz => ?_
    · rw [low (rn hx).1 (rn hx).2 (rn hy).1 (rn hy).2 ne]
      exact tied_anyP ht (new (rn hx).2 t1) (new (rn hy).2 t2) ne
    · have := rangeI_mem.mp hz
      by_cases c : z < n
      · exact .inl (rangeI_mem.mpr ⟨this.1, by omega⟩)
      · exact .inr (by omega)
theorem with_one_ok {ns : List Int} {F : Nat} {xs : List D} {n : Int} {ts : List (Int × Int)} (g : Good n ts) (n9 : n < 10) (hc : Cup ns (F + 10) xs) {X : XF} {Q : R → S → Prop}
    (h : ∀ qs so xs', Cup ns F xs' → Good (n + 1) qs → Set' n so → Tied ts so → (∀ p, p ∈ qs ↔ p ∈ ts ∨ p.1 ∈ so ∧ p.2 = n) → Q (.d (webD (n + 1) qs)) [.l xs', .d (webD n ts)]) : m__law_b_with_one [.l xs, .d (webD n ts)] X Q := by
  have n0 := g.n0
  have tf := good_few g
  unfold m__law_b_with_one b__law_b_with_one
  refine st_sem rfl ?_
  refine st_join (fun s => s = [.l xs, .d (webD n ts), .l [], .no]) ?_ (fun k hk => by array_get_dec; exact hk _ rfl)
  rintro s rfl
  refine st_join (fun s => ∃ (so : List Int) (xs : List D), s = [.l xs, .d (webD n ts), .l (so.map .int), .no] ∧ Set' n so ∧ Tied ts so ∧ Cup ns F xs) ?_ (fun kq hkq => ?_)
  rotate_left
  · rw [show webD n ts = PyData.tuple [.int n, .tuple (ts.map pairD)] from rfl] at *
    array_get_dec
    refine ⟨by unfold lim62; omega, ?_⟩
    array_get_dec
    rw [show PyData.tuple [.int n, .tuple (ts.map pairD)] = webD n ts from rfl] at *
    refine loop_range1 (hi := n) (fun k s => ∃ (so : List Int) (xs : List D), s = [.l xs, .d (webD n ts), .l (so.map .int), .no] ∧ Set' k so ∧ Tied ts so ∧ Cup ns (F + (n - k).toNat) xs) ?_ ?_ ⟨[], xs, rfl, ⟨.nil, fun z hz => nomatch hz⟩, .nil, hc.less (by omega)⟩
    · rintro s ⟨so, xs, rfl, hs, ht, hc⟩
      rw [show max 0 n = n by omega] at hs hc
      exact hkq _ ⟨so, xs, rfl, hs, ht, hc.less (by omega)⟩
    · rintro k s kk hk hkn ⟨so, xs, rfl, hs, ht, hc⟩ hkk
      have few := hs.few (by omega)
      have hs1 : Set' (k + 1) so := ⟨hs.up, fun z hz => by have := hs.lt z hz; omega⟩
      refine st_nm ?_
      array_get_dec
      refine digit_ok (F := F + (n - (k + 1)).toNat) (hc.less (by omega)) (by decide) (by decide) fun r xs2 hc2 hr0 hr1 => ?_
      array_get_dec
      refine st_ite (fun q => ?_) (fun q => ?_)
      · array_get_dec
        refine st_add_l (by rw [List.length_map]; show _ + 1 ≤ 16777216; omega) ?_
        array_get_dec
        have hs2 : Set' n (so ++ [k]) := ⟨List.pairwise_append.mpr ⟨hs.up, by simp, fun a ha b hb => by
          have := hs.lt a ha
          rw [List.mem_singleton.mp hb]
          omega⟩, fun z hz => by
          rcases List.mem_append.mp hz with hz | hz
          · have := hs.lt z hz; omega
          · rw [List.mem_singleton.mp hz]; omega⟩
        rw [show (so.map PyData.int ++ [PyData.int k]) = (so ++ [k]).map PyData.int by rw [List.map_append]; rfl]
        refine is_crowd_ok g hs2 fun fin => ?_
        by_cases c : AgB ts true (so ++ [k])
        · rw [dec_t c]
          array_get_dec
          refine st_append (by rw [List.length_map]; show _ < 16777216; omega) ?_
          array_get_dec
          exact hkk _ ⟨so ++ [k], xs2, by rw [List.map_append]; rfl, ⟨hs2.up, fun z hz => by
            rcases List.mem_append.mp hz with hz | hz
            · have := hs.lt z hz; omega
            · rw [List.mem_singleton.mp hz]; omega⟩, c, hc2⟩
        · rw [dec_f c]
          array_get_dec
          exact hkk _ ⟨so, xs2, rfl, hs1, ht, hc2⟩
      · array_get_dec
        exact hkk _ ⟨so, xs2, rfl, hs1, ht, hc2⟩
  clear hc xs
  rintro s ⟨so, xs, rfl, hs, ht, hc⟩
  have few := hs.few (by omega)
  rw [show webD n ts = PyData.tuple [.int n, .tuple (ts.map pairD)] from rfl] at *
  array_get_dec
  refine ⟨by rw [List.length_map]; show _ ≤ 16777216; omega, ?_⟩
  array_get_dec
  refine comp_list PyData.int (fun z => pairD (z, n)) _ (fun z hz kT hkT => ?_) ?_
  · array_get_dec
    exact hkT
  array_get_dec
  refine st_add_l (by rw [List.length_map, List.length_map]; show _ + _ ≤ 16777216; omega) ?_
  array_get_dec
  refine st_sort_p (ps := ts ++ so.map fun z => (z, n)) (by rw [List.map_append, List.map_map]; rfl) fun qs hq hqs => ?_
  array_get_dec
  have nd : (ts ++ so.map fun z => (z, n)).Nodup := List.nodup_append.mpr ⟨Up.nodup g.up, List.Pairwise.map _ (fun a b (hab : a < b) e => by simp at e; omega) hs.up, fun a ha b hb e => by
    obtain ⟨z, _, rfl⟩ := List.mem_map.mp hb
    have := g.ties a ha
    rw [e] at this
    dsimp only at this
    omega⟩
  have mem : ∀ p, p ∈ qs ↔ p ∈ ts ∨ p.1 ∈ so ∧ p.2 = n := fun p => by
    rw [hq.mem_iff, List.mem_append, List.mem_map]
    constructor
    · rintro (q | ⟨z, hz, rfl⟩)
      · exact .inl q
      · exact .inr ⟨hz, rfl⟩
    · rintro (q | ⟨q1, q2⟩)
      · exact .inl q
      · exact .inr ⟨p.1, q1, Prod.ext rfl q2.symm⟩
  have lq := hq.length_eq
  rw [List.length_append, List.length_map] at lq
  refine h qs so xs hc ⟨by omega, by omega, fun p hp => ?_, strict_of hq nd hqs, by omega⟩ hs ht mem
  rcases (mem p).mp hp with q | q
  · have := g.ties p q
    omega
  · have := hs.lt _ q.1
    omega
theorem cut_right_ok {ns : List Int} {F : Nat} {xs : List D} {n : Int} {ts : List (Int × Int)} (g : Good n ts) (hc : Cup ns (F + 100) xs) {X : XF} {Q : R → S → Prop}
    (h : ∀ xs', Cup ns F xs' → Q (.d (.bool true)) [.l xs', .d (webD n ts), .d (.bool (dec (Fo n ts)))]) : m__law_b_cut_right [.l xs, .d (webD n ts), .d (.bool (dec (Fo n ts)))] X Q := by
  have n0 := g.n0
  have n10 := g.n10
  unfold m__law_b_cut_right b__law_b_cut_right
  refine st_sem rfl ?_
  generalize hB : dec (Fo n ts) = B at h ⊢
  array_get_dec
  refine ⟨by decide, ?_⟩
  array_get_dec
  refine loop_range1 (hi := 4) (fun t s => ∃ xs : List D, s = [.l xs, .d (webD n ts), .d (.bool B), .no, .no, .no, .no, .no, .no] ∧ Cup ns (F + 20 * (4 - t).toNat) xs) ?_ ?_ ⟨xs, rfl, hc.less (by omega)⟩
  · rintro s ⟨xs, rfl, hc⟩
    array_get_dec
    exact h xs (hc.less (by omega))
  · rintro t s k ht0 ht1 ⟨xs, rfl, hc⟩ hk
    refine st_nm ?_
    refine st_join (fun s => ∃ (ks : List Int) (xs : List D), Set' n ks ∧ Cup ns (F + 20 * (4 - (t + 1)).toNat) xs ∧ s = [.l xs, .d (webD n ts), .d (.bool B), .d (.int t), .d (tfD ks), .no, .no, .no, .no]) ?_ (fun kq hkq => ?_)
    rotate_left
    · rw [show webD n ts = PyData.tuple [.int n, .tuple (ts.map pairD)] from rfl] at *
      array_get_dec
      refine ⟨by unfold lim62; omega, ?_⟩
      array_get_dec
      refine ⟨by rw [rangeD_len]; show _ ≤ 16777216; omega, ?_⟩
      array_get_dec
      rw [rangeD_map]
      refine comp_inv (fun rest acc s => ∃ (rs so : List Int) (xs : List D), rest = rs.map PyData.int ∧ acc = so.map PyData.int ∧ (so ++ rs).Pairwise (· < ·) ∧ (∀ z ∈ so ++ rs, 0 ≤ z ∧ z < n) ∧ rs.length ≤ 10 ∧ Cup ns (F + 20 * (4 - (t + 1)).toNat + rs.length) xs ∧ s = [.l xs, .d (.tuple [.int n, .tuple (ts.map pairD)]), .d (.bool B), .d (.int t), .no, .no, .no, .no, .no]) (fun acc s hI => ?_) (fun x rest acc s kT kF hI hT hF => ?_) _ _ _ ⟨rangeI n.toNat, [], xs, rfl, rfl, rangeI_up, fun z hz => by have := rangeI_mem.mp hz; omega, by rw [rangeI_len]; omega, hc.less (by rw [rangeI_len]; omega), rfl⟩
      · obtain ⟨rs, so, xs, e1, rfl, up, lt, _, hc, rfl⟩ := hI
        obtain rfl : rs = [] := List.map_eq_nil_iff.mp e1.symm
        rw [List.append_nil] at up lt
        array_get_dec
        refine st_tupN (ns := so) rfl ?_
        array_get_dec
        exact hkq _ ⟨so, xs, ⟨up, lt⟩, hc.less (by omega), rfl⟩
      · obtain ⟨rs, so, xs, e1, rfl, up, lt, rl, hc, rfl⟩ := hI
        cases rs with
        | nil => cases e1
        | cons z rs =>
          injection e1 with e1 e2
          subst e1 e2
          rw [List.length_cons] at hc rl
          have sub : (so ++ rs).Sublist (so ++ z :: rs) := List.Sublist.append (List.Sublist.refl _) (List.sublist_cons_self _ _)
          refine st_nm ?_
          array_get_dec
          refine digit_ok (F := F + 20 * (4 - (t + 1)).toNat + rs.length) (hc.less (by omega)) (by decide) (by decide) fun r xs2 hc2 hr0 hr1 => ?_
          array_get_dec
          refine st_ite (fun q => ?_) (fun q => ?_)
          · array_get_dec
            exact hT _ _ ⟨rs, so ++ [z], xs2, rfl, by rw [List.map_append]; rfl, by rw [List.append_assoc]; exact up, by rw [List.append_assoc]; exact lt, by omega, hc2, rfl⟩
          · exact hF _ ⟨rs, so, xs2, rfl, rfl, up.sublist sub, fun w hw => lt w (sub.subset hw), by omega, hc2, rfl⟩
    clear hc xs
    rintro s ⟨ks, xs, hs, hc, rfl⟩
    have few := hs.few n10
    have irr := good_no g
    refine st_join (fun s => ∃ qs, Whole ks.length (fun i j => (atZ ks i, atZ ks j) ∈ ts) qs ∧ s = [.l xs, .d (webD n ts), .d (.bool B), .d (.int t), .d (tfD ks), .no, .d (webD ks.length qs), .no, .no]) ?_ (fun kq hkq => by
      array_get_dec
      refine cut_down_F g hs fun qs fin hw => ?_
      array_get_dec
      exact hkq _ ⟨qs, hw, rfl⟩)
    rintro s ⟨qs, hw, rfl⟩
    have g2 : Good ks.length qs := hw.good (by omega) (by omega)
    refine st_join (fun s => s = [.l xs, .d (webD n ts), .d (.bool B), .d (.int t), .d (tfD ks), .no, .d (webD ks.length qs), .d (.bool (dec (Fo ks.length qs))), .no]) ?_ (fun kq hkq => by
      array_get_dec
      refine folds_ok g2 fun fin => ?_
      array_get_dec
      exact hkq _ rfl)
    rintro s rfl
    by_cases hF : Fo n ts
    · have hF2 := cut_push (good_no g2) hs hw hF
      rw [dec_t hF] at hB
      subst hB
      rw [dec_t hF2]
      array_get_dec
      refine fold_ok g (fun o fin hso => ?_) (fun o M r fin h1 h2 h3 h4 h5 h6 => absurd hF (fo_not h1 h2 h3))
      have ol : o.length ≤ 10 := by
        have := (hso.order rangeI_nd).1.length_eq
        rw [rangeI_len] at this
        omega
      array_get_dec
      refine ⟨by rw [List.length_map]; show _ ≤ 16777216; omega, ?_⟩
      array_get_dec
      refine comp_filter PyData.int (fun z => .int (ix ks z)) (fun z => decide (z ∈ ks)) _ (fun z hz kT kF hT hF => ?_) ?_
      · refine st_nm ?_
        array_get_dec
        refine st_ite (fun q => ?_) (fun q => ?_)
        · array_get_dec
          refine ⟨ks, rfl, ?_⟩
          array_get_dec
          refine ⟨z, rfl, of_decide_eq_true q, ?_⟩
          array_get_dec
          exact hT q
        · exact hF q
      array_get_dec
      rw [show ((o.filter fun z => decide (z ∈ ks)).map fun z => PyData.int (ix ks z)) = ((o.filter fun z => decide (z ∈ ks)).map (ix ks)).map PyData.int by rw [List.map_map]; rfl]
      refine is_fold_ok g2 (by have := List.length_filter_le (fun z => decide (z ∈ ks)) o; rw [List.length_map]; omega) fun fin => ?_
      rw [cut_order (good_no g2) hs hw hso]
      array_get_dec
      exact hk _ ⟨xs, rfl, hc⟩
    · rw [dec_f hF] at hB
      subst hB
      array_get_dec
      exact hk _ ⟨xs, rfl, hc⟩
end Lk18
namespace Lk18
open PySem Hs
local macro_rules
  | `(tactic| sizeOf_list_dec) => `(tactic| first
    | with_reducible refine st_seq ?_ | with_reducible refine st_asg ?_ | with_reducible refine st_cons ?_ | with_reducible refine st_nil ?_ | with_reducible refine st_C ?_ | with_reducible refine st_op ?_
    | with_reducible refine st_var_d ?_ | with_reducible refine st_var_l ?_ | with_reducible refine st_var_ll ?_ | with_reducible refine st_var_dc ?_
    | with_reducible refine st_look_d ?_ | with_reducible refine st_look_top ?_ | with_reducible refine st_look_top_d ?_ | with_reducible refine st_look_own ?_ | with_reducible refine st_look_top_dc ?_ | with_reducible refine st_look_own_dc ?_ | with_reducible refine st_put_d ?_ | with_reducible refine st_put_own ?_ | with_reducible refine st_put_top_l ?_ | with_reducible refine st_put_top_ll ?_ | with_reducible refine st_put_top_dc ?_
    | ((with_reducible refine st_callF ?_ ?_); eq_refl) | with_reducible refine st_call ?_ | with_reducible refine st_putK_nil ?_ | with_reducible refine st_putK_t ?_ | with_reducible refine st_putK_f ?_ | with_reducible refine st_putK_td ?_ | with_reducible refine st_putK_to ?_ | with_reducible refine st_bind_nil ?_ | with_reducible refine st_bind_f ?_ | with_reducible refine st_bind_tt ?_ | with_reducible refine st_bind_td ?_ | with_reducible refine st_bind_to ?_
    | with_reducible refine st_frz_d ?_ | with_reducible refine st_frz_own ?_ | with_reducible refine st_frz_top ?_ | with_reducible refine st_frz_own_ll ?_ | with_reducible refine st_frz_own_dc ?_ | with_reducible refine st_frz_top_ll ?_ | with_reducible refine st_frz_top_dc ?_ | with_reducible refine st_frzAll_nil ?_ | with_reducible refine st_frzAll_cons ?_
    | with_reducible refine st_if ?_ | with_reducible refine st_B ?_ | with_reducible refine st_and ?_ | with_reducible refine st_or ?_ | with_reducible refine st_not ?_ | with_reducible refine st_yes ?_ | with_reducible refine st_isB ?_ | with_reducible refine st_t ?_ | with_reducible refine st_f ?_ | ((with_reducible refine st_iteT ?_ ?_); decide) | ((with_reducible refine st_iteF ?_ ?_); decide)
    | with_reducible refine st_nt ?_ | with_reducible refine st_nf ?_
    | with_reducible refine st_ret ?_ | with_reducible refine st_next ?_ | with_reducible refine st_retN ?_ | with_reducible refine st_drop ?_ | with_reducible refine st_break ?_ | with_reducible refine st_raise ?_
    | with_reducible refine st_out_d ?_ | with_reducible refine st_out_own ?_ | with_reducible refine st_out_top ?_
    | with_reducible refine st_tup ?_ | with_reducible refine st_lst ?_ | with_reducible refine st_un ?_ | with_reducible refine st_blt ?_ | with_reducible refine st_lookAll_nil ?_ | with_reducible refine st_lookAll_cons ?_
    | with_reducible refine st_unp ?_ | with_reducible refine st_par ?_ | with_reducible refine st_setIx ?_ | with_reducible refine st_onL ?_ | with_reducible refine st_for ?_ | with_reducible refine st_wipe_nil ?_ | with_reducible refine st_wipe_cons ?_ | with_reducible refine st_andV ?_ | with_reducible refine st_orV ?_ | with_reducible refine st_notV ?_ | with_reducible refine st_ifE ?_ | with_reducible refine st_chain ?_
    | with_reducible refine st_sl ?_ | with_reducible refine st_noPart ?_ | with_reducible refine st_part ?_ | with_reducible refine st_lc ?_ | with_reducible refine st_lm ?_
    | with_reducible refine st_seqI ?_ | with_reducible refine st_range1 ?_ | with_reducible refine st_range2 ?_ | with_reducible refine st_enum ?_ | with_reducible refine st_zip ?_
    | with_reducible refine st_nm ?_ | with_reducible refine st_tp ?_ | with_reducible refine st_tps_nil ?_ | with_reducible refine st_tps_cons ?_
    | ((with_reducible refine st_mod_i ?_ ?_); (first | decide | omega)) | ((with_reducible refine st_fdiv_i ?_ ?_); decide) 
    | with_reducible refine st_add_i ?_ | with_reducible refine st_sub_i ?_ | with_reducible refine st_neg_i ?_ | with_reducible refine st_eq_i ?_ | with_reducible refine st_ne_i ?_ | with_reducible refine st_eq_str ?_ | with_reducible refine st_ne_str ?_ | with_reducible refine st_eq_b ?_ | with_reducible refine st_ne_b ?_ | with_reducible refine st_lt_i ?_ | with_reducible refine st_le_i ?_ | with_reducible refine st_gt_i ?_ | with_reducible refine st_ge_i ?_
    | with_reducible refine st_is_n ?_ | with_reducible refine st_isNot_n ?_ | with_reducible refine st_is_b ?_ | with_reducible refine st_isNot_b ?_ | ((with_reducible refine st_ix_l (x := ?_) ?_ ?_); rotate_left; eq_refl) | ((with_reducible refine st_ix_t (x := ?_) ?_ ?_); rotate_left; eq_refl) | with_reducible refine st_len_l ?_ | with_reducible refine st_len_t ?_ | with_reducible refine st_len_lit ?_
    | with_reducible refine st_abs ?_ | with_reducible refine st_max2 ?_ | with_reducible refine st_min2 ?_ | with_reducible refine st_int_i ?_ | with_reducible refine st_int_b ?_ | with_reducible refine st_tuple_l ?_ | with_reducible refine st_tuple_t ?_ | with_reducible refine st_list_l ?_ | with_reducible refine st_list_t ?_ | ((with_reducible refine st_isT ?_ ?_); eq_refl) | ((with_reducible refine st_isTT ?_ ?_); eq_refl) | ((with_reducible refine st_isTF ?_ ?_); eq_refl) | ((with_reducible refine st_isNT ?_ ?_); eq_refl) | ((with_reducible refine st_isNF ?_ ?_); eq_refl)
    | with_reducible refine st_rg1 ?_ | with_reducible refine st_rg2 ?_ | with_reducible refine st_enumL ?_ | with_reducible refine st_zipS ?_ | with_reducible refine st_rev_l ?_ | with_reducible refine st_rev_t ?_
    | with_reducible refine st_ne_ll ?_ | with_reducible refine st_ne_lit ?_ | with_reducible refine st_in_pt ?_ | with_reducible refine st_in_pl ?_
    | with_reducible refine st_sl_l ?_ | with_reducible refine st_sl_t ?_
    | ((with_reducible refine st_iteLen ?_ ?_); eq_refl) | ((with_reducible refine st_iteNLen ?_ ?_); eq_refl) | with_reducible refine st_iteBB ?_ | ((with_reducible refine st_iteND ?_ ?_); omega) | ((with_reducible refine st_iteNF ?_ ?_); omega)
    | ((with_reducible refine st_iteT (decide_eq_true ?_) ?_); omega) | ((with_reducible refine st_iteF (decide_eq_false ?_) ?_); omega))
local macro_rules
  | `(tactic| sizeOf_list_dec) => `(tactic| with_reducible refine stepTo ?_)
local macro_rules
  | `(tactic| array_get_dec) => `(tactic| repeat sizeOf_list_dec)
local macro_rules
  | `(tactic| sizeOf_list_dec) => `(tactic| first | with_reducible refine st_ix2_l ?_ | with_reducible refine st_ix2_t ?_ | with_reducible refine st_ix2_s ?_ | with_reducible refine st_ix2_lit ?_ | with_reducible refine st_inK_l ?_ | with_reducible refine st_inK_t ?_ | with_reducible refine st_ninK_l ?_ | with_reducible refine st_ninK_t ?_ | with_reducible refine st_setD ?_ | with_reducible refine st_onDc ?_ | with_reducible refine st_dget2 ?_ | with_reducible refine st_emT ?_ | with_reducible refine st_emD ?_ | with_reducible refine st_disp1 ?_ | with_reducible refine st_disp1k ?_ | with_reducible refine st_range3 ?_ | with_reducible refine st_bor ?_ | with_reducible refine st_borT ?_ | with_reducible refine st_bindT_nil ?_ | with_reducible refine st_bindT_d ?_ | with_reducible refine st_bindT_o ?_ | with_reducible refine st_bindT_t ?_ | with_reducible refine st_toPs_nil ?_ | with_reducible refine st_toPs_d ?_ | with_reducible refine st_toPs_l ?_ | with_reducible refine st_toPs_dc ?_ | with_reducible refine st_tupO ?_ | with_reducible refine st_var_tp ?_ | with_reducible refine st_frz_own_tp ?_ | with_reducible refine st_frz_top_tp ?_ | with_reducible refine st_lmP ?_ | ((with_reducible refine st_onP ?_ ?_); eq_refl) | with_reducible refine st_flat_b ?_ | with_reducible refine st_flat_i ?_)
local macro_rules
  | `(tactic| sizeOf_list_dec) => `(tactic| first | with_reducible refine st_lenT_f ?_ | with_reducible refine st_lenT ?_ | with_reducible refine st_ixDT_t ?_ | with_reducible refine st_ixDT_l ?_ | with_reducible refine st_inT_f ?_ | with_reducible refine st_inT2 ?_ | with_reducible refine st_isT_f ?_ | with_reducible refine st_isT2 ?_ | with_reducible refine st_seqT ?_ | with_reducible refine st_seqT_l ?_ | with_reducible refine st_seqT_t ?_ | with_reducible refine st_seqT_f ?_ | with_reducible refine st_tix ?_)
local macro_rules
  | `(tactic| sizeOf_list_dec) => `(tactic| with_reducible refine is_whole_ok fun _ => ?_)
local macro_rules
  | `(tactic| sizeOf_list_dec) => `(tactic| first | with_reducible refine st_in_il ?_ | with_reducible refine st_in_it ?_ | with_reducible refine st_notIn_il ?_ | with_reducible refine st_notIn_it ?_ | with_reducible refine st_ne_ll ?_)
local macro_rules
  | `(tactic| sizeOf_list_dec) => `(tactic| first | with_reducible refine st_lcK ?_ | with_reducible refine st_rowOf ?_)
theorem law_holds : ∀ ns : List Int, ns.length ≤ 63 → (∀ z ∈ ns, Builtin.Int.intBits z ≤ 1048576) → m_law [.d (litD ns)] (fun _ _ => False) (fun r _ => r = .d (.bool true)) := by
  intro ns hns _
  unfold m_law b_law
  refine st_sem rfl ?_
  refine st_join (fun s => s = [.d (litD ns), .l [litD ns, .int 0, .int 0], .no, .no, .no, .no]) ?_ (fun k hk => by array_get_dec; exact hk _ rfl)
  rintro s rfl
  refine st_join (fun s => ∃ xs, s = [.d (litD ns), .l xs, .no, .no, .no, .no]) ?_ (fun k hk => ?_)
  · rintro s ⟨xs, rfl⟩
    array_get_dec
    rfl
  · array_get_dec
    refine ⟨by decide, ?_⟩
    array_get_dec
    refine loop_range1 (hi := 3) (fun i s => ∃ xs : List D, s = [.d (litD ns), .l xs, .no, .no, .no, .no] ∧ Cup ns (2000 * (3 - i).toNat) xs) (fun s ⟨xs, e, _⟩ => hk s ⟨xs, e⟩) ?_ ⟨_, rfl, 0, 0, rfl, by decide, by decide⟩
    rintro i s k2 hi hin ⟨xs, rfl, hc⟩ hk2
    refine st_nm ?_
    refine st_join (fun s => ∃ xs : List D, s = [.d (litD ns), .l xs, .d (.int i), .no, .no, .no] ∧ Cup ns (2000 * (3 - (i + 1)).toNat + 2000) xs) ?_ (fun k3 hk3 => ?_)
    rotate_left
    · array_get_dec
      refine st_ite (fun q => ?_) (fun q => ?_)
      · have hc' := hc
        obtain ⟨a, v, rfl, ha, hb⟩ := hc
        array_get_dec
        refine st_ite (fun q2 => ?_) (fun q2 => ?_)
        · array_get_dec
          exact hk _ ⟨_, rfl⟩
        · array_get_dec
          exact hk3 _ ⟨_, rfl, hc'.less (by omega)⟩
      · array_get_dec
        exact hk3 _ ⟨_, rfl, hc.less (by omega)⟩
    clear hc xs
    rintro s ⟨xs, rfl, hc⟩
    generalize hB : 2000 * (3 - (i + 1)).toNat = B at hc
    refine st_join (fun s => ∃ n ts xs, Good n ts ∧ Cup ns (B + 1500) xs ∧ s = [.d (litD ns), .l xs, .d (.int i), .d (webD n ts), .no, .no]) ?_ (fun k hk => by
      array_get_dec
      refine web_ok (F := B + 1500) (hc.less (by omega)) (by decide) (by decide) fun n ts xs1 hc1 g hn => ?_
      array_get_dec
      exact hk _ ⟨n, ts, xs1, g, hc1, rfl⟩)
    clear hc xs
    rintro s ⟨n, ts, xs, g, hc, rfl⟩
    have n0 := g.n0
    have n10 := g.n10
    refine st_join (fun s => s = [.d (litD ns), .l xs, .d (.int i), .d (webD n ts), .d (.bool (dec (Fo n ts))), .no]) ?_ (fun k hk => by
      array_get_dec
      refine folds_ok g fun fin => ?_
      array_get_dec
      exact hk _ rfl)
    rintro s rfl
    refine st_join (fun s => ∃ xs, Cup ns (B + 1000) xs ∧ s = [.d (litD ns), .l xs, .d (.int i), .d (webD n ts), .d (.bool (dec (Fo n ts))), .no]) ?_ (fun k hk => ?_)
    rotate_left
    · array_get_dec
      rw [show isNone (PyData.bool (dec (Fo n ts))) = false from rfl]
      array_get_dec
      refine called_ok (F := B + 1300) g (hc.less (by omega)) fun qs ls xs1 hc1 g2 hb hl hq => ?_
      array_get_dec
      refine folds_ok g2 fun fin => ?_
      rw [show dec (Fo n qs) = dec (Fo n ts) by rw [propext (called_fo g g2 hb hl hq)]]
      array_get_dec
      refine cut_right_ok (F := B + 1000) g (hc1.less (by omega)) fun xs2 hc2 => ?_
      array_get_dec
      exact hk _ ⟨xs2, hc2, rfl⟩
    clear hc xs
    rintro s ⟨xs, hc, rfl⟩
    refine st_join (fun s => ∃ m us xs, Good m us ∧ n + m ≤ 10 ∧ Cup ns (B + 500) xs ∧ s = [.d (litD ns), .l xs, .d (.int i), .d (webD n ts), .d (.bool (dec (Fo n ts))), .d (webD m us)]) ?_ (fun k hk => by
      rw [show webD n ts = PyData.tuple [.int n, .tuple (ts.map pairD)] from rfl] at *
      array_get_dec
      refine web_ok (F := B + 500) (hc.less (by omega)) (by omega) (by omega) fun m us xs1 hc1 g2 hm => ?_
      array_get_dec
      exact hk _ ⟨m, us, xs1, g2, by omega, hc1, rfl⟩)
    clear hc xs
    rintro s ⟨m, us, xs, g2, nm, hc, rfl⟩
    refine st_join (fun s => s = [.d (litD ns), .l xs, .d (.int i), .d (webD n ts), .d (.bool (dec (Fo n ts))), .d (webD m us)]) ?_ (fun k hk => ?_)
    rotate_left
    · array_get_dec
      refine beside_ok g g2 nm fun qs fin hw => ?_
      have g3 : Good (n + m) qs := hw.good (by have := g2.n0; omega) nm
      array_get_dec
      refine folds_ok g3 fun fin => ?_
      array_get_dec
      have e := beside_fo g g2 g3 hw
      by_cases hF : Fo n ts
      · rw [dec_t hF] at hk ⊢
        array_get_dec
        refine folds_ok g2 fun fin => ?_
        have e2 : dec (Fo (n + m) qs) = dec (Fo m us) := by
          by_cases h2 : Fo m us
          · rw [dec_t h2, dec_t (e.mpr ⟨hF, h2⟩)]
          · rw [dec_f h2, dec_f fun z => h2 (e.mp z).2]
        rw [e2]
        array_get_dec
        exact hk _ rfl
      · rw [dec_f hF] at hk ⊢
        rw [dec_f fun z => hF (e.mp z).1]
        array_get_dec
        exact hk _ rfl
    rintro s rfl
    rw [show webD n ts = PyData.tuple [.int n, .tuple (ts.map pairD)] from rfl] at *
    array_get_dec
    refine st_ite (fun q => ?_) (fun q => ?_)
    · have q : n < 10 := by simpa using q
      rw [show PyData.tuple [.int n, .tuple (ts.map pairD)] = webD n ts from rfl] at *
      array_get_dec
      refine with_one_ok (F := B + 400) g q (hc.less (by omega)) fun qs so xs1 hc1 g3 hs ht mem => ?_
      array_get_dec
      refine folds_ok g3 fun fin => ?_
      rw [show dec (Fo (n + 1) qs) = dec (Fo n ts) by rw [propext (with_fo g g3 hs ht mem)]]
      array_get_dec
      exact hk2 _ ⟨xs1, rfl, hc1.less (by rw [hB]; omega)⟩
    · array_get_dec
      exact hk2 _ ⟨xs, rfl, hc.less (by rw [hB]; omega)⟩
end Lk18
open PySem PySem.W PySem.Calls PyProof.Rows
set_option maxHeartbeats 0 in
theorem PySem.Challenge.cw_hueshare_k18_whole_folds_of_webs_made_holds : PySem.Challenge.rw_hueshare_k18_whole_folds_of_webs_made.Holds := by
  w_on; o_law
  refine HandSHeadRun.head_any (r := OpenLaw.row PySem.Challenge.rw_hueshare_k18_whole_folds_of_webs_made) (q := view (OpenLaw.row PySem.Challenge.rw_hueshare_k18_whole_folds_of_webs_made).prog [69]) (H := Lk18.hk) (ob := Lk18.ob) (M := 9000) (loose := Lk18.nm) (d := HandSHeadRun.topDef (OpenLaw.row PySem.Challenge.rw_hueshare_k18_whole_folds_of_webs_made).prog 69) (kwd := []) Lk18.ob_eq
    (by kernel_rfl) (fun s => by kernel_rfl) Lk18.run (by kernel_rfl) (by kernel_rfl) (by kernel_rfl) (by rfl) (by first | assumption | decide +kernel) (by decide +kernel) ⟨rfl, rfl, rfl, rfl, rfl, by decide +kernel⟩ ?hw ?hc
  case hw => w_witness2
  case hc =>
    refine Hs.walk_ofBE (l := PySem.Challenge.rw_hueshare_k18_whole_folds_of_webs_made) (n := 63) (k := 22) (ms := [false]) (sem := Lk18.m_law) rfl (by decide) (by kernel_rfl) ⟨rfl, by decide, by decide⟩ ?F Lk18.law_holds
    intro w mg fa h Y G hmg0
    obtain ⟨K, KX, c⟩ := Y
    have hmg : mg ("law" : PySem.Str) = some (.ref fa) := by
      have e : (HandSHeadRun.topDef (OpenLaw.row PySem.Challenge.rw_hueshare_k18_whole_folds_of_webs_made).prog 69).name = ("law" : PySem.Str) := by kernel_rfl
      rw [← e]
      exact hmg0
    obtain ⟨fd, hb, hF⟩ := Lk18.facts (P := (PySem.Challenge.rw_hueshare_k18_whole_folds_of_webs_made).prog) (w := w) KX G hmg c
    exact ⟨K, fd, KX, hb, hF⟩
