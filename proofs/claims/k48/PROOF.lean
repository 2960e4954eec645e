import PyProof.Rows.All
import Wide.All
import OpenK.AllK
import Wide.FinOn
import HandS.ForMost
import HandS.ForExc
import HandS.CallSlots
import HandS.Deep
import HandS.TupAny
import HandS.TupMul
import HandS.TupLe
import HandS.Wide
import HandS.SortInts
import HandS.SortRule
import HandS.Conv
import HandS.IsInst
import HandS.Style
import HandS.SortOrd
import HandS.More
import HandS.HeadHook2
import HandS.EndBits
import HandS.HeadEnd
import HandS.HeadHook1
import HandS.Head0
import HandS.Head1
import HandS.Head2
import HandS.ExcOwn
import HandS.Iter
import HandS.Zip
import HandS.Rev
import KE.GoesEnum
import PyProof.Rows.SortShellAny
import PyProof.ReprRoads
import HandS.SetFor
import HandS.Strs
import HandS.ExcIs
import HandS.ExcValue
import PyProof.SetRoads
import PySem.Challenge.RW_hueshare_k48_alike_everywhere
set_option Elab.async false
set_option linter.all false
set_option maxRecDepth 100000
set_option maxHeartbeats 4000000
set_option exponentiation.threshold 100000
namespace Hs
open PySem PySem.Spec PyProof.Rows L2
/-- how a def is looked at by names -/
abbrev dOf (x : Str) (st : Stmt) : He.DefD := ⟨(x, none), x, x, defArgs st, defBody st, defScope st, [], []⟩
def excB (K : PySem.W.Frag) (D : Addr) : Bool :=
  decide (PySem.W.findIn K (.ref D) "__getattribute__" = some (some (.builtin "BaseException.__getattribute__"))) && (decide (PySem.W.findIn K (.ref D) "__getattr__" = some none) && (decide (PySem.W.subIn K (.ref D) (.type "BaseException") = some true) && (PySem.W.hasDictIn K D &&
    (decide (PySem.W.findIn K (.ref D) "__class__" = some (some (.builtin "object.__class__"))) && (decide (PySem.W.specialIn K (.builtin "object.__class__") "__get__" = some (some (.builtin "getset_descriptor.__get__"))) && (decide (PySem.W.takesIn K (.builtin "object.__class__") = some true) &&
      decide (PySem.W.mroIn K D (.type "object") = some true)))))))
/-- what isinstance says of the errors of the classes named, asked for an own class, for a built-in one -/
inductive ExQ where
  | own (y : Str) (tb : List (Str × Bool))
  | ty (T : String) (tb : List (Str × Bool))
def ExQ.row (K : PySem.W.Frag) (cv : Value) (tb : List (Str × Bool)) : Bool := tb.all fun p => excB K (He.ga K p.1) && decide (PySem.W.kitOne K (.ref (He.ga K p.1)) cv = some p.2)
def ExQ.ok (K : PySem.W.Frag) : ExQ → Bool
  | .own y tb => ExQ.row K (.ref (He.ga K y)) tb
  | .ty T tb => ExQ.row K (.type T) tb
end Hs
namespace Lk48
open PySem PySem.Spec PyProof.Rows L2 Hs
def topS (i : Nat) : Stmt := PySem.Challenge.pw_hueshare_k48_alike_everywhere.main.body.getD i (.Pass ⟨0, 0, 0, 0⟩)
abbrev s__law_e_moved : Stmt := topS 37
abbrev s__law_e_stir : Stmt := topS 30
abbrev s__law_e_dip : Stmt := topS 31
abbrev s__law_e_order : Stmt := topS 38
abbrev s__law_e_round_web : Stmt := topS 39
abbrev s__law_e_web_of : Stmt := topS 32
abbrev s__law_e_web : Stmt := topS 33
abbrev s__law_e_bent : Stmt := topS 43
abbrev s__law_e_side_by_side : Stmt := topS 44
abbrev s__law_e_ring_of : Stmt := topS 45
abbrev s__law_e_two_rings : Stmt := topS 46
abbrev s__law_e_tied : Stmt := topS 34
abbrev s__law_e_tied_across : Stmt := topS 47
abbrev s__law_e_turned_on : Stmt := topS 40
abbrev s__law_e_is_alike : Stmt := topS 41
abbrev s_is_whole : Stmt := topS 5
abbrev s_is_below : Stmt := topS 6
abbrev s_is_rising : Stmt := topS 8
abbrev s_is_tie : Stmt := topS 7
abbrev s_are_ties : Stmt := topS 9
abbrev s_is_web : Stmt := topS 10
abbrev s_need_web : Stmt := topS 11
abbrev s_may_turn : Stmt := topS 23
abbrev s_go_on : Stmt := topS 24
abbrev s_all_places : Stmt := topS 12
abbrev s_rows_of : Stmt := topS 13
abbrev s_turnings_in : Stmt := topS 25
abbrev s_is_alike_in : Stmt := topS 26
abbrev s_is_alike : Stmt := topS 27
abbrev s_divisor : Stmt := topS 20
abbrev s_lowest : Stmt := topS 21
abbrev s_first_greatest : Stmt := topS 17
abbrev s_full_from : Stmt := topS 15
abbrev s_full_apart_in : Stmt := topS 16
abbrev s_greatest_apart_in : Stmt := topS 18
abbrev s_alike_value : Stmt := topS 28
abbrev s__law_e_part : Stmt := topS 36
abbrev s__law_e_apart_sets : Stmt := topS 35
abbrev s__law_e_right : Stmt := topS 42
abbrev s_law : Stmt := topS 48
def fa0 : List He.Fa := [.glo "_law_e_moved", .glo "_law_e_stir", .glo "_law_e_dip", .glo "_law_e_order", .glo "_law_e_round_web", .glo "_law_e_web_of", .glo "_law_e_web", .glo "_law_e_bent", .glo "_law_e_side_by_side", .glo "_law_e_ring_of", .glo "_law_e_two_rings", .glo "_law_e_tied", .glo "_law_e_tied_across", .glo "_law_e_turned_on", .glo "_law_e_is_alike", .glo "is_whole", .glo "is_below", .glo "is_rising", .glo "is_tie", .glo "are_ties", .glo "is_web", .glo "need_web", .glo "may_turn", .glo "go_on", .glo "all_places", .glo "rows_of", .glo "turnings_in", .glo "is_alike_in", .glo "is_alike", .glo "divisor"]
def fa1 : List He.Fa := [.glo "lowest", .glo "first_greatest", .glo "full_from", .glo "full_apart_in", .glo "greatest_apart_in", .glo "alike_value", .glo "_law_e_part", .glo "_law_e_apart_sets", .glo "_law_e_right", .glo "law", .glo "NoWeb", .exc "NoWeb", .int "MOST_PLACES" 10, .free "max", .free "min", .free "sorted", .free "tuple", .free "len", .free "list", .free "range", .free "all", .free "set", .free "isinstance", .free "int", .free "bool", .free "enumerate", .free "abs", .free "any"]
def fa : List He.Fa := fa0 ++ fa1
def fn0 : List He.DefD := [dOf "_law_e_moved" s__law_e_moved, dOf "_law_e_stir" s__law_e_stir, dOf "_law_e_dip" s__law_e_dip, dOf "_law_e_order" s__law_e_order, dOf "_law_e_round_web" s__law_e_round_web, dOf "_law_e_web_of" s__law_e_web_of, dOf "_law_e_web" s__law_e_web, dOf "_law_e_bent" s__law_e_bent, dOf "_law_e_side_by_side" s__law_e_side_by_side, dOf "_law_e_ring_of" s__law_e_ring_of, dOf "_law_e_two_rings" s__law_e_two_rings, dOf "_law_e_tied" s__law_e_tied, dOf "_law_e_tied_across" s__law_e_tied_across, dOf "_law_e_turned_on" s__law_e_turned_on, dOf "_law_e_is_alike" s__law_e_is_alike, dOf "is_whole" s_is_whole, dOf "is_below" s_is_below, dOf "is_rising" s_is_rising, dOf "is_tie" s_is_tie, dOf "are_ties" s_are_ties, dOf "is_web" s_is_web, dOf "need_web" s_need_web, dOf "may_turn" s_may_turn, dOf "go_on" s_go_on, dOf "all_places" s_all_places, dOf "rows_of" s_rows_of, dOf "turnings_in" s_turnings_in, dOf "is_alike_in" s_is_alike_in, dOf "is_alike" s_is_alike, dOf "divisor" s_divisor]
def fn1 : List He.DefD := [dOf "lowest" s_lowest, dOf "first_greatest" s_first_greatest, dOf "full_from" s_full_from, dOf "full_apart_in" s_full_apart_in, dOf "greatest_apart_in" s_greatest_apart_in, dOf "alike_value" s_alike_value, dOf "_law_e_part" s__law_e_part, dOf "_law_e_apart_sets" s__law_e_apart_sets, dOf "_law_e_right" s__law_e_right, dOf "law" s_law]
def fn : List He.DefD := fn0 ++ fn1
def nm0 : List PySem.Str := ["HueError", "NoWeb", "is_whole", "is_below", "is_tie", "is_rising", "are_ties", "is_web", "need_web", "all_places", "rows_of", "full_from", "full_apart_in", "first_greatest", "greatest_apart_in", "divisor", "lowest", "may_turn", "go_on", "turnings_in", "is_alike_in", "is_alike", "alike_value", "_law_e_stir", "_law_e_dip", "_law_e_web_of", "_law_e_web", "_law_e_tied", "_law_e_apart_sets", "_law_e_part"]
def nm1 : List PySem.Str := ["_law_e_moved", "_law_e_order", "_law_e_round_web", "_law_e_turned_on", "_law_e_is_alike", "_law_e_right", "_law_e_bent", "_law_e_side_by_side", "_law_e_ring_of", "_law_e_two_rings", "_law_e_tied_across", "MOST_PLACES"]
def nm : List PySem.Str := nm0 ++ nm1
abbrev Rw : PySem.W.OpenRow := PySem.W.OpenLaw.row PySem.Challenge.rw_hueshare_k48_alike_everywhere
def nx (g : Addr → Option Obj) (L : List Addr) : List Addr := L.flatMap fun a => match g a with
  | some o => He.refsD o
  | none => []
def bfs (g : Addr → Option Obj) : Nat → List Addr → List Addr
  | 0, L => L
  | n + 1, L => L ++ bfs g n (nx g L)
def asE (g : Addr → Option Obj) : List Addr := bfs g 4 [mainGlobals]
def hk : PySem.W.Hook where
  α := He.AlD
  obs := fun s => He.obsD fa fn (He.frG s.heap.get? (asE s.heap.get?))
  val := fun _ => He.valD fn
  says := fun _ h => ∃ K : PySem.W.Frag, K.In h ∧ He.SaysD fa fn K
  of := fun _ _ e => ⟨_, He.frG_in, e⟩
  keeps := fun _ _ _ ⟨K, hK, c⟩ k => ⟨K, PySem.W.Frag.In.keeps hK k, c⟩
def ob (s : PySem.W.SharedT) : He.AlD := He.obsD fa fn (He.frG (HandSHeadRun.getT s) (asE (HandSHeadRun.getT s)))
theorem ob_eq (s : PySem.W.SharedT) : ob s = hk.obs s.abs := by
  have e : HandSHeadRun.getT s = s.abs.heap.get? := funext fun a => HandSHeadRun.getT_eq s a
  show He.obsD fa fn (He.frG (HandSHeadRun.getT s) (asE (HandSHeadRun.getT s))) = He.obsD fa fn (He.frG s.abs.heap.get? (asE s.abs.heap.get?))
  rw [e]
set_option maxHeartbeats 0 in
theorem run (w : World) : HandSHeadRun.RunEq Rw (PySem.W.view Rw.prog [48]) hk ob 9000 nm w := by
  intro os
  kernel_rfl
end Lk48
namespace Hs
open PySem PySem.Spec PyProof.Rows L2
abbrev D := PyData
abbrev St := L2.St
/-- what a slot holds: nothing known; a value that nobody changes; a list (rows of lists, a dict) that this slot alone holds; an object of a class with its fields -/
inductive PV where
  | d (x : D) | l (xs : List D) | dc (kvs : List (D × D)) | o (c : Str) (fs : List (Str × PV))
inductive SV where
  | no | d (x : D) | l (xs : List D) | ll (xss : List (List D)) | dc (kvs : List (D × D)) | ob (c : Str) (fs : List (Str × PV)) | tp (ws : List PV) | lo (ws : List PV)
/-- what an expression gives: a value; something new; what a slot holds -/
inductive R where
  | d (x : D) | own (v : SV) | top (i : Nat)
abbrev S := List SV
def keyD : Key → D
  | .inl i => .int i
  | .inr x => .str x
def keysD (ks : List Key) : D := .tuple (ks.map keyD)
/-- a list of ints that may be the text's own (nobody changes it): told by a dict of one key that no dict has -/
def litD (ns : List Int) : D := .dict [(.none, .list (ns.map .int))]
/-- a caught error of the class of that name -/
def excD (c : Str) : D := .dict [(.none, .str c)]
/-- an object of the class of that name that nobody changes -/
def obD (c : Str) (kvs : List (D × D)) : D := .dict ((.none, .bool true) :: (.none, .str c) :: kvs)
/-- an object's fields as a dict's entries -/
def obK (fs : List (Str × V)) : List (Key × V) := fs.map fun p => (.inr p.1, p.2)
/-- .. on the heap: an error of the class at C, at a -/
def ExV (C a : Addr) : HO := .ext fun h => ∃ (oe : Obj) (vs : Array Value), h.get? a = some oe ∧ Zc (.ref C) none oe ∧ oe.data = .fields vs
mutual
inductive Rp (K : PySem.W.Frag) (H : Hp) : V → PyData → Prop
  | non : Rp K H .non .none
  | bl (b : Bool) : Rp K H (.bl b) (.bool b)
  | int (i : Int) : Rp K H (.int i) (.int i)
  | str (x : Str) : Rp K H (.str x) (.str x)
  | lst {a : Addr} {xs : List V} {ds : List PyData} : Rd H a (.lst xs) → xs.length ≤ sizeLine → RpAll K H xs ds → Rp K H (.ref a) (.list ds)
  | tup {a : Addr} {xs : List V} {ds : List PyData} : H a = some (.tup xs) → xs.length ≤ sizeLine → RpAll K H xs ds → Rp K H (.ref a) (.tuple ds)
  | dcK {a : Addr} {ks : List (Key × V)} {kvs : List (PyData × PyData)} : Rd H a (.dK ks) → RpK K H ks kvs → Rp K H (.ref a) (.dict kvs)
  | dcT {a : Addr} {ks : List (List Key × V)} {kvs : List (PyData × PyData)} : H a = some (.dT ks) → RpT K H ks kvs → Rp K H (.ref a) (.dict ((.none, .none) :: kvs))
  | lit {a : Addr} {ns : List Int} : SqL K H a (ns.map V.int) → ns.length ≤ sizeLine → Rp K H (.ref a) (litD ns)
  | exc {a : Addr} {c : Str} : H a = some (ExV (He.ga K c) a) → Rp K H (.ref a) (excD c)
  | obj {a dx : Addr} {c : Str} {fs : List (Str × V)} {kvs : List (PyData × PyData)} : H a = some (.ins (He.ga K c) dx fs) → H dx = some (.own a) → RpK K H (obK fs) kvs → Rp K H (.ref a) (.dict ((.none, .bool true) :: (.none, .str c) :: kvs))
inductive RpAll (K : PySem.W.Frag) (H : Hp) : List V → List PyData → Prop
  | nil : RpAll K H [] []
  | cons {v : V} {vs : List V} {d : PyData} {ds : List PyData} : Rp K H v d → RpAll K H vs ds → RpAll K H (v :: vs) (d :: ds)
inductive RpK (K : PySem.W.Frag) (H : Hp) : List (Key × V) → List (PyData × PyData) → Prop
  | nil : RpK K H [] []
  | cons {k : Key} {v : V} {ks : List (Key × V)} {d : PyData} {kvs : List (PyData × PyData)} : Rp K H v d → RpK K H ks kvs → RpK K H ((k, v) :: ks) ((keyD k, d) :: kvs)
inductive RpT (K : PySem.W.Frag) (H : Hp) : List (List Key × V) → List (PyData × PyData) → Prop
  | nil : RpT K H [] []
  | cons {k : List Key} {v : V} {ks : List (List Key × V)} {d : PyData} {kvs : List (PyData × PyData)} : Rp K H v d → RpT K H ks kvs → RpT K H ((k, v) :: ks) ((keysD k, d) :: kvs)
end
theorem same_sqT {K : PySem.W.Frag} {H H' : Hp} {a : Addr} {xs : List V} (e : Same H H') (h : SqT K H a xs) : SqT K H' a xs := by
  rcases h with (h | ⟨o, h⟩) | h
  · exact .inl (.inl (e _ _ h))
  · exact .inl (.inr ⟨o, e _ _ h⟩)
  · exact .inr h
theorem tupSq {K : PySem.W.Frag} {H : Hp} {a : Addr} {xs : List V} (h : H a = some (.tup xs)) : SqT K H a xs := .inl (.inl h)
theorem same_rd {H H' : Hp} {a : Addr} {u : HO} (e : Same H H') (h : Rd H a u) : Rd H' a u := by
  rcases h with h | ⟨o, h⟩
  · exact .inl (e _ _ h)
  · exact .inr ⟨o, e _ _ h⟩
section
variable {K : PySem.W.Frag} {H H' : Hp}
mutual
theorem Rp.mono (e : Same H H') : ∀ (d : PyData) (v : V), Rp K H v d → Rp K H' v d
  | .none, _, .non => .non
  | .bool _, _, .bl b => .bl b
  | .int _, _, .int i => .int i
  | .str _, _, .str x => .str x
  | .list ds, _, .lst h z a => .lst (same_rd e h) z (RpAll.mono e ds _ a)
  | .tuple ds, _, .tup h z a => .tup (e _ _ h) z (RpAll.mono e ds _ a)
  | .dict kvs, _, .dcK h a => .dcK (same_rd e h) (RpK.mono e kvs _ a)
  | .dict ((.none, .none) :: kvs), _, .dcT h a => .dcT (e _ _ h) (RpT.mono e kvs _ a)
  | _, _, .lit h z => .lit (e.seq h) z
  | _, _, .exc h => .exc (e _ _ h)
  | .dict ((.none, .bool true) :: (.none, .str _) :: kvs), _, .obj h1 h2 a => .obj (e _ _ h1) (e _ _ h2) (RpK.mono e kvs _ a)
theorem RpAll.mono (e : Same H H') : ∀ (ds : List PyData) (vs : List V), RpAll K H vs ds → RpAll K H' vs ds
  | [], _, .nil => .nil
  | d :: ds, _, .cons h a => .cons (Rp.mono e d _ h) (RpAll.mono e ds _ a)
theorem RpK.mono (e : Same H H') : ∀ (kvs : List (PyData × PyData)) (ks : List (Key × V)), RpK K H ks kvs → RpK K H' ks kvs
  | [], _, .nil => .nil
  | (_, d) :: kvs, _, .cons h a => .cons (Rp.mono e d _ h) (RpK.mono e kvs _ a)
theorem RpT.mono (e : Same H H') : ∀ (kvs : List (PyData × PyData)) (ks : List (List Key × V)), RpT K H ks kvs → RpT K H' ks kvs
  | [], _, .nil => .nil
  | (_, d) :: kvs, _, .cons h a => .cons (Rp.mono e d _ h) (RpT.mono e kvs _ a)
end
theorem Rp.same {v : V} {d : D} (r : Rp K H v d) (e : Same H H') : Rp K H' v d := Rp.mono e d v r
theorem RpAll.same {vs : List V} {ds : List D} (r : RpAll K H vs ds) (e : Same H H') : RpAll K H' vs ds := RpAll.mono e ds vs r
theorem RpK.same {ks : List (Key × V)} {kvs : List (D × D)} (r : RpK K H ks kvs) (e : Same H H') : RpK K H' ks kvs := RpK.mono e kvs ks r
theorem RpT.same {ks : List (List Key × V)} {kvs : List (D × D)} (r : RpT K H ks kvs) (e : Same H H') : RpT K H' ks kvs := RpT.mono e kvs ks r
theorem RpAll.length : ∀ {vs : List V} {ds : List D}, RpAll K H vs ds → vs.length = ds.length
  | _, _, .nil => rfl
  | _, _, .cons _ a => congrArg (· + 1) (RpAll.length a)
theorem RpAll.append : ∀ {vs ws : List V} {ds es : List D}, RpAll K H vs ds → RpAll K H ws es → RpAll K H (vs ++ ws) (ds ++ es)
  | _, _, _, _, .nil, b => b
  | _, _, _, _, .cons h a, b => .cons h (RpAll.append a b)
theorem RpAll.get : ∀ {vs : List V} {ds : List D} {i : Nat} {d : D}, RpAll K H vs ds → ds[i]? = some d → ∃ v, vs[i]? = some v ∧ Rp K H v d
  | _, _, _, _, .nil, e => by simp at e
  | _, _, 0, _, .cons h _, e => by
    cases e
    exact ⟨_, rfl, h⟩
  | _, _, i + 1, _, .cons _ a, e => RpAll.get (i := i) a e
theorem RpAll.getV : ∀ {vs : List V} {ds : List D} {i : Nat} {v : V}, RpAll K H vs ds → vs[i]? = some v → ∃ d, ds[i]? = some d ∧ Rp K H v d
  | _, _, _, _, .nil, e => by simp at e
  | _, _, 0, _, .cons h _, e => by
    cases e
    exact ⟨_, rfl, h⟩
  | _, _, i + 1, _, .cons _ a, e => RpAll.getV (i := i) a e
theorem RpAll.take : ∀ {vs : List V} {ds : List D} (n : Nat), RpAll K H vs ds → RpAll K H (vs.take n) (ds.take n)
  | _, _, 0, _ => .nil
  | _, _, _ + 1, .nil => .nil
  | _, _, n + 1, .cons h a => .cons h (RpAll.take n a)
theorem RpAll.drop : ∀ {vs : List V} {ds : List D} (n : Nat), RpAll K H vs ds → RpAll K H (vs.drop n) (ds.drop n)
  | _, _, 0, a => a
  | _, _, _ + 1, .nil => .nil
  | _, _, n + 1, .cons _ a => RpAll.drop n a
theorem RpAll.set {v : V} {d : D} (r : Rp K H v d) : ∀ {vs : List V} {ds : List D} (i : Nat), RpAll K H vs ds → RpAll K H (vs.set i v) (ds.set i d)
  | _, _, _, .nil => .nil
  | _, _, 0, .cons _ a => .cons r a
  | _, _, i + 1, .cons h a => .cons h (RpAll.set r i a)
theorem RpAll.ints : ∀ {vs : List V} {ns : List Int}, RpAll K H vs (ns.map PyData.int) → vs = ns.map V.int
  | _, [], .nil => rfl
  | _, n :: ns, .cons (.int _) a => by rw [RpAll.ints a]; rfl
theorem RpAll.of_ints : ∀ ns : List Int, RpAll K H (ns.map V.int) (ns.map PyData.int)
  | [] => .nil
  | n :: ns => .cons (.int n) (RpAll.of_ints ns)
theorem RpAll.bools : ∀ {vs : List V} {ns : List Bool}, RpAll K H vs (ns.map PyData.bool) → vs = ns.map V.bl
  | _, [], .nil => rfl
  | _, n :: ns, .cons (.bl _) a => by rw [RpAll.bools a]; rfl
end
/-- rows of lists, each held by no other -/
inductive LL (K : PySem.W.Frag) (Z H : Hp) : List Addr → List (List D) → Prop
  | nil : LL K Z H [] []
  | cons {q : Addr} {vs : List V} {qs : List Addr} {xs : List D} {xss : List (List D)} : H q = some (.lst vs) → vs.length ≤ sizeLine → RpAll K Z vs xs → LL K Z H qs xss → LL K Z H (q :: qs) (xs :: xss)
def DcAt (K : PySem.W.Frag) (Z H : Hp) (p : Addr) (kvs : List (D × D)) : Prop :=
  (∃ ks, H p = some (.dK ks) ∧ RpK K Z ks kvs) ∨ ∃ ks kvs', kvs = (.none, .none) :: kvs' ∧ H p = some (.dT ks) ∧ RpT K Z ks kvs'
mutual
/-- the parts of a tuple (a list, an object) that one slot alone holds -/
def PartAt (K : PySem.W.Frag) (Z H : Hp) : V → PV → List Addr → Prop
  | v, .d x, F => F = [] ∧ Rp K Z v x
  | v, .l xs, F => ∃ p vs, v = .ref p ∧ F = [p] ∧ H p = some (.lst vs) ∧ vs.length ≤ sizeLine ∧ RpAll K Z vs xs
  | v, .dc kvs, F => ∃ p, v = .ref p ∧ F = [p] ∧ DcAt K Z H p kvs
  | v, .o c fs, F => ∃ p dx vs G, v = .ref p ∧ F = p :: dx :: G ∧ H p = some (.ins (He.ga K c) dx ((fs.map (·.1)).zip vs)) ∧ H dx = some (.own p) ∧ PsAt K Z H vs fs G
def PsAt (K : PySem.W.Frag) (Z H : Hp) : List V → List (Str × PV) → List Addr → Prop
  | [], [], F => F = []
  | v :: vs, (_, w) :: fs, F => ∃ F1 F2, F = F1 ++ F2 ∧ PartAt K Z H v w F1 ∧ PsAt K Z H vs fs F2
  | _, _, _ => False
end
inductive TpAt (K : PySem.W.Frag) (Z H : Hp) : List V → List PV → List Addr → Prop
  | nil : TpAt K Z H [] [] []
  | cons {v : V} {w : PV} {F G : List Addr} {vs : List V} {ws : List PV} : PartAt K Z H v w F → TpAt K Z H vs ws G → TpAt K Z H (v :: vs) (w :: ws) (F ++ G)
mutual
def PV.asD : PV → D
  | .d x => x
  | .l xs => .list xs
  | .dc kvs => .dict kvs
  | .o c fs => obD c (PV.asDs fs)
def PV.asDs : List (Str × PV) → List (D × D)
  | [] => []
  | (n, w) :: fs => (.str n, PV.asD w) :: PV.asDs fs
end
theorem PsAt.tp {K : PySem.W.Frag} {Z H : Hp} : ∀ {fs : List (Str × PV)} {vs : List V} {F : List Addr}, PsAt K Z H vs fs F → TpAt K Z H vs (fs.map (·.2)) F
  | [], [], _, h => by rw [show _ = [] from h]; exact .nil
  | (n, w) :: fs, v :: vs, _, h => by
    obtain ⟨F1, F2, e, h1, h2⟩ := h
    rw [e]; exact .cons h1 (PsAt.tp h2)
  | [], _ :: _, _, h => h.elim
  | _ :: _, [], _, h => h.elim
/-- how a slot's content stands; F: the addresses that it alone holds -/
def SlotAt (K : PySem.W.Frag) (Z H : Hp) (v : Option V) : SV → List Addr → Prop
  | .no, F => F = []
  | .d x, F => F = [] ∧ ∃ u, v = some u ∧ Rp K Z u x
  | .l xs, F => ∃ p vs, v = some (.ref p) ∧ F = [p] ∧ H p = some (.lst vs) ∧ vs.length ≤ sizeLine ∧ RpAll K Z vs xs
  | .ll xss, F => ∃ p qs, v = some (.ref p) ∧ F = p :: qs ∧ H p = some (.lst (qs.map V.ref)) ∧ qs.length ≤ sizeLine ∧ LL K Z H qs xss
  | .dc kvs, F => ∃ p, v = some (.ref p) ∧ F = [p] ∧ DcAt K Z H p kvs
  | .ob c fs, F => ∃ p dx vs G, v = some (.ref p) ∧ F = p :: dx :: G ∧ H p = some (.ins (He.ga K c) dx ((fs.map (·.1)).zip vs)) ∧ H dx = some (.own p) ∧ TpAt K Z H vs (fs.map (·.2)) G
  | .tp ws, F => ∃ p vs, v = some (.ref p) ∧ Z p = some (.tup vs) ∧ vs.length ≤ sizeLine ∧ TpAt K Z H vs ws F
  | .lo ws, F => ∃ p vs G, v = some (.ref p) ∧ F = p :: G ∧ H p = some (.lst vs) ∧ vs.length ≤ sizeLine ∧ TpAt K Z H vs ws G
section
variable {K : PySem.W.Frag} {Z Z' H H' : Hp}
theorem LL.mono (e : Same Z Z') : ∀ {qs : List Addr} {xss : List (List D)}, (∀ a ∈ qs, ∀ o, H a = some o → H' a = some o) → LL K Z H qs xss → LL K Z' H' qs xss
  | _, _, _, .nil => .nil
  | _, _, k, .cons h z a r => .cons (k _ List.mem_cons_self _ h) z (a.same e) (LL.mono e (fun b hb => k b (List.mem_cons_of_mem _ hb)) r)
theorem DcAt.mono {p : Addr} {kvs : List (D × D)} (e : Same Z Z') (kp : ∀ o, H p = some o → H' p = some o) (h : DcAt K Z H p kvs) : DcAt K Z' H' p kvs := by
  rcases h with ⟨ks, e1, r⟩ | ⟨ks, kvs', e0, e1, r⟩
  · exact .inl ⟨ks, kp _ e1, r.same e⟩
  · exact .inr ⟨ks, kvs', e0, kp _ e1, r.same e⟩
theorem DcAt.there {p : Addr} {kvs : List (D × D)} (h : DcAt K Z H p kvs) : H p ≠ none := by
  rcases h with ⟨ks, e1, r⟩ | ⟨ks, kvs', e0, e1, r⟩ <;> (rw [e1]; exact fun z => nomatch z)
mutual
theorem PartAt.mono0 (e : Same Z Z') : ∀ (w : PV) {v : V} {F : List Addr}, (∀ a ∈ F, ∀ o, H a = some o → H' a = some o) → PartAt K Z H v w F → PartAt K Z' H' v w F
  | .d x, _, _, _, h => ⟨h.1, h.2.same e⟩
  | .l xs, _, _, k, h => by
    obtain ⟨p, vs, h1, h2, h3, h4, h5⟩ := h
    exact ⟨p, vs, h1, h2, k p (by rw [h2]; exact List.mem_cons_self) _ h3, h4, h5.same e⟩
  | .dc kvs, _, _, k, h => by
    obtain ⟨p, h1, h2, h3⟩ := h
    exact ⟨p, h1, h2, h3.mono e (k p (by rw [h2]; exact List.mem_cons_self))⟩
  | .o c fs, _, _, k, h => by
    obtain ⟨p, dx, vs, G, h1, h2, h3, h4, h5⟩ := h
    exact ⟨p, dx, vs, G, h1, h2, k p (by rw [h2]; simp) _ h3, k dx (by rw [h2]; simp) _ h4, PsAt.mono0 e fs (fun a ha => k a (by rw [h2]; simp [ha])) h5⟩
theorem PsAt.mono0 (e : Same Z Z') : ∀ (fs : List (Str × PV)) {vs : List V} {F : List Addr}, (∀ a ∈ F, ∀ o, H a = some o → H' a = some o) → PsAt K Z H vs fs F → PsAt K Z' H' vs fs F
  | [], [], _, _, h => h
  | (n, w) :: fs, v :: vs, _, k, h => by
    obtain ⟨F1, F2, e1, h1, h2⟩ := h
    exact ⟨F1, F2, e1, PartAt.mono0 e w (fun a ha => k a (by rw [e1]; exact List.mem_append.mpr (.inl ha))) h1, PsAt.mono0 e fs (fun a ha => k a (by rw [e1]; exact List.mem_append.mpr (.inr ha))) h2⟩
  | [], _ :: _, _, _, h => h.elim
  | _ :: _, [], _, _, h => h.elim
end
theorem PartAt.mono {v : V} {w : PV} {F : List Addr} (e : Same Z Z') (k : ∀ a ∈ F, ∀ o, H a = some o → H' a = some o) (h : PartAt K Z H v w F) : PartAt K Z' H' v w F := PartAt.mono0 e w k h
/-- what is there at all of a part's things: no tuple -/
def HasP (H : Hp) (F : List Addr) : Prop := ∀ a ∈ F, H a ≠ none ∧ ∀ vs, H a ≠ some (.tup vs)
theorem HasP.app {F G : List Addr} (h1 : HasP H F) (h2 : HasP H G) : HasP H (F ++ G) := fun a ha => (List.mem_append.mp ha).elim (h1 a) (h2 a)
theorem HasP.one {p : Addr} {o : HO} (h : H p = some o) (n : ∀ vs, o ≠ .tup vs) : HasP H [p] := fun a ha => by
  obtain rfl : a = p := by simpa using ha
  refine ⟨fun e => ?_, fun vs e => n vs (Option.some.inj (h.symm.trans e))⟩
  rw [h] at e; cases e
mutual
theorem PartAt.has : ∀ (w : PV) {v : V} {F : List Addr}, PartAt K Z H v w F → HasP H F
  | .d x, _, _, h => by rw [h.1]; exact fun a ha => nomatch ha
  | .l xs, _, _, h => by
    obtain ⟨p, vs, h1, h2, h3, h4, h5⟩ := h
    rw [h2]; exact .one h3 fun _ z => nomatch z
  | .dc kvs, _, _, h => by
    obtain ⟨p, h1, h2, h3⟩ := h
    rw [h2]
    rcases h3 with ⟨ks, e1, r⟩ | ⟨ks, kvs', e0, e1, r⟩ <;> exact .one e1 fun _ z => nomatch z
  | .o c fs, _, _, h => by
    obtain ⟨p, dx, vs, G, h1, h2, h3, h4, h5⟩ := h
    rw [h2]
    exact HasP.app (F := [p]) (.one h3 fun _ z => nomatch z) (HasP.app (F := [dx]) (.one h4 fun _ z => nomatch z) (PsAt.has fs h5))
theorem PsAt.has : ∀ (fs : List (Str × PV)) {vs : List V} {F : List Addr}, PsAt K Z H vs fs F → HasP H F
  | [], [], _, h => by rw [show _ = [] from h]; exact fun a ha => nomatch ha
  | (n, w) :: fs, v :: vs, _, h => by
    obtain ⟨F1, F2, e1, h1, h2⟩ := h
    rw [e1]
    exact (PartAt.has w h1).app (PsAt.has fs h2)
  | [], _ :: _, _, h => h.elim
  | _ :: _, [], _, h => h.elim
end
theorem PartAt.there {v : V} {w : PV} {F : List Addr} (h : PartAt K Z H v w F) : ∀ a ∈ F, H a ≠ none := fun a ha => (PartAt.has w h a ha).1
theorem TpAt.mono (e : Same Z Z') : ∀ {vs : List V} {ws : List PV} {F : List Addr}, (∀ a ∈ F, ∀ o, H a = some o → H' a = some o) → TpAt K Z H vs ws F → TpAt K Z' H' vs ws F
  | _, _, _, _, .nil => .nil
  | _, _, _, k, .cons h r => .cons (h.mono e fun a ha => k a (List.mem_append.mpr (.inl ha))) (TpAt.mono e (fun a ha => k a (List.mem_append.mpr (.inr ha))) r)
theorem TpAt.there {vs : List V} {ws : List PV} {F : List Addr} (h : TpAt K Z H vs ws F) : ∀ a ∈ F, H a ≠ none := by
  induction h with
  | nil => intro a ha; cases ha
  | cons h r ih =>
    intro a ha
    rcases List.mem_append.mp ha with ha | ha
    · exact h.there a ha
    · exact ih a ha
theorem TpAt.length {vs : List V} {ws : List PV} {F : List Addr} (h : TpAt K Z H vs ws F) : vs.length = ws.length := by
  induction h with
  | nil => rfl
  | cons h r ih => rw [List.length_cons, List.length_cons, ih]
theorem SlotAt.mono {v : Option V} {sv : SV} {F : List Addr} (e : Same Z Z') (k : ∀ a ∈ F, ∀ o, H a = some o → H' a = some o) (h : SlotAt K Z H v sv F) : SlotAt K Z' H' v sv F := by
  cases sv with
  | no => exact h
  | d x =>
    obtain ⟨h1, u, h2, r⟩ := h
    exact ⟨h1, u, h2, r.same e⟩
  | l xs =>
    obtain ⟨p, vs, h1, h2, h3, h4, h5⟩ := h
    exact ⟨p, vs, h1, h2, k p (by rw [h2]; exact List.mem_cons_self) _ h3, h4, h5.same e⟩
  | ll xss =>
    obtain ⟨p, qs, h1, h2, h3, h4, h5⟩ := h
    exact ⟨p, qs, h1, h2, k p (by rw [h2]; exact List.mem_cons_self) _ h3, h4, h5.mono e fun a ha => k a (by rw [h2]; exact List.mem_cons_of_mem _ ha)⟩
  | dc kvs =>
    obtain ⟨p, h1, h2, h3⟩ := h
    exact ⟨p, h1, h2, h3.mono e (k p (by rw [h2]; exact List.mem_cons_self))⟩
  | ob c fs =>
    obtain ⟨p, dx, vs, G, h1, h2, h3, h4, h5⟩ := h
    exact ⟨p, dx, vs, G, h1, h2, k p (by rw [h2]; simp) _ h3, k dx (by rw [h2]; simp) _ h4, h5.mono e fun a ha => k a (by rw [h2]; simp [ha])⟩
  | tp ws =>
    obtain ⟨p, vs, h1, h3, h4, h5⟩ := h
    exact ⟨p, vs, h1, e _ _ h3, h4, h5.mono e k⟩
  | lo ws =>
    obtain ⟨p, vs, G, h1, h2, h3, h4, h5⟩ := h
    exact ⟨p, vs, G, h1, h2, k p (by rw [h2]; simp) _ h3, h4, h5.mono e fun a ha => k a (by rw [h2]; simp [ha])⟩
theorem SlotAt.there {v : Option V} {sv : SV} {F : List Addr} (h : SlotAt K Z H v sv F) : ∀ a ∈ F, H a ≠ none := by
  have LLt : ∀ {qs : List Addr} {xss : List (List D)}, LL K Z H qs xss → ∀ a ∈ qs, H a ≠ none := by
    intro qs xss r
    induction r with
    | nil => intro a ha; cases ha
    | cons h z a r ih =>
      intro b hb
      rcases List.mem_cons.mp hb with rfl | hb
      · rw [h]; exact fun z => nomatch z
      · exact ih b hb
  intro a ha
  cases sv with
  | no => rw [show F = [] from h] at ha; cases ha
  | d x => rw [h.1] at ha; cases ha
  | l xs =>
    obtain ⟨p, vs, h1, h2, h3, h4, h5⟩ := h
    rw [h2] at ha
    obtain rfl : a = p := by simpa using ha
    rw [h3]; exact fun z => nomatch z
  | ll xss =>
    obtain ⟨p, qs, h1, h2, h3, h4, h5⟩ := h
    rw [h2] at ha
    rcases List.mem_cons.mp ha with rfl | ha
    · rw [h3]; exact fun z => nomatch z
    · exact LLt h5 a ha
  | dc kvs =>
    obtain ⟨p, h1, h2, h3⟩ := h
    rw [h2] at ha
    obtain rfl : a = p := by simpa using ha
    exact h3.there
  | ob c fs =>
    obtain ⟨p, dx, vs, G, h1, h2, h3, h4, h5⟩ := h
    rw [h2] at ha
    rcases List.mem_cons.mp ha with rfl | ha
    · rw [h3]; exact fun z => nomatch z
    · rcases List.mem_cons.mp ha with rfl | ha
      · rw [h4]; exact fun z => nomatch z
      · exact h5.there a ha
  | tp ws =>
    obtain ⟨p, vs, h1, h3, h4, h5⟩ := h
    exact h5.there a ha
  | lo ws =>
    obtain ⟨p, vs, G, h1, h2, h3, h4, h5⟩ := h
    rw [h2] at ha
    rcases List.mem_cons.mp ha with rfl | ha
    · rw [h3]; exact fun z => nomatch z
    · exact h5.there a ha
theorem DcAt.nt {p : Addr} {kvs : List (D × D)} (h : DcAt K Z H p kvs) : ∀ vs, H p ≠ some (.tup vs) := by
  intro vs
  rcases h with ⟨ks, e1, r⟩ | ⟨ks, kvs', e0, e1, r⟩ <;> (rw [e1]; exact fun z => nomatch z)
theorem PartAt.nt {v : V} {w : PV} {F : List Addr} (h : PartAt K Z H v w F) : ∀ a ∈ F, ∀ vs, H a ≠ some (.tup vs) := fun a ha => (PartAt.has w h a ha).2
theorem TpAt.nt {vs : List V} {ws : List PV} {F : List Addr} (h : TpAt K Z H vs ws F) : ∀ a ∈ F, ∀ vs, H a ≠ some (.tup vs) := by
  induction h with
  | nil => intro a ha; cases ha
  | cons h r ih =>
    intro a ha
    rcases List.mem_append.mp ha with ha | ha
    · exact h.nt a ha
    · exact ih a ha
theorem SlotAt.nt {v : Option V} {sv : SV} {F : List Addr} (h : SlotAt K Z H v sv F) : ∀ a ∈ F, ∀ vs, H a ≠ some (.tup vs) := by
  have LLt : ∀ {qs : List Addr} {xss : List (List D)}, LL K Z H qs xss → ∀ a ∈ qs, ∀ vs, H a ≠ some (.tup vs) := by
    intro qs xss r
    induction r with
    | nil => intro a ha; cases ha
    | cons h z a r ih =>
      intro b hb us
      rcases List.mem_cons.mp hb with rfl | hb
      · rw [h]; exact fun z => nomatch z
      · exact ih b hb us
  intro a ha us
  cases sv with
  | no => rw [show F = [] from h] at ha; cases ha
  | d x => rw [h.1] at ha; cases ha
  | l xs =>
    obtain ⟨p, vs, h1, h2, h3, h4, h5⟩ := h
    rw [h2] at ha
    obtain rfl : a = p := by simpa using ha
    rw [h3]; exact fun z => nomatch z
  | ll xss =>
    obtain ⟨p, qs, h1, h2, h3, h4, h5⟩ := h
    rw [h2] at ha
    rcases List.mem_cons.mp ha with rfl | ha
    · rw [h3]; exact fun z => nomatch z
    · exact LLt h5 a ha us
  | dc kvs =>
    obtain ⟨p, h1, h2, h3⟩ := h
    rw [h2] at ha
    obtain rfl : a = p := by simpa using ha
    exact h3.nt us
  | ob c fs =>
    obtain ⟨p, dx, vs, G, h1, h2, h3, h4, h5⟩ := h
    rw [h2] at ha
    rcases List.mem_cons.mp ha with rfl | ha
    · rw [h3]; exact fun z => nomatch z
    · rcases List.mem_cons.mp ha with rfl | ha
      · rw [h4]; exact fun z => nomatch z
      · exact h5.nt a ha us
  | tp ws =>
    obtain ⟨p, vs, h1, h3, h4, h5⟩ := h
    exact h5.nt a ha us
  | lo ws =>
    obtain ⟨p, vs, G, h1, h2, h3, h4, h5⟩ := h
    rw [h2] at ha
    rcases List.mem_cons.mp ha with rfl | ha
    · rw [h3]; exact fun z => nomatch z
    · exact h5.nt a ha us
end
/-- the state: Z what nobody changes, Y what others hold, H all; σ the slots' values, s what they hold -/
structure OwnF (K : PySem.W.Frag) (Z Y H : Hp) (σ : St) (s : S) (F : Nat → List Addr) : Prop where
  at_ : ∀ i, SlotAt K Z H (σ.getD i none) (s.getD i .no) (F i)
  nd : ∀ i, (F i).Nodup
  dj : ∀ i j a, a ∈ F i → a ∈ F j → i = j
  fr : ∀ i a, a ∈ F i → Z a = none ∧ Y a = none
structure Rel (K : PySem.W.Frag) (Z Y H : Hp) (σ : St) (s : S) : Prop where
  zh : Same Z H
  yh : Same Y H
  zy : ∀ a, Z a ≠ none → Y a = none
  yt : ∀ a vs, Y a ≠ some (.tup vs)
  len : σ.length = s.length
  own : ∃ F, OwnF K Z Y H σ s F
section
variable {K : PySem.W.Frag} {Z Z' Y Y' H H' : Hp} {σ σ' : St} {s s' : S}
/-- the slots put otherwise, some forgotten -/
theorem Rel.re (r : Rel K Z Y H σ s) (f : Nat → Option Nat) (hl : σ'.length = s'.length)
    (h : ∀ k, match f k with | none => s'.getD k .no = .no ∨ ∃ x v, s'.getD k .no = .d x ∧ σ'.getD k none = some v ∧ Rp K Z v x | some j => s'.getD k .no = s.getD j .no ∧ σ'.getD k none = σ.getD j none)
    (inj : ∀ k k' j, f k = some j → f k' = some j → k = k') : Rel K Z Y H σ' s' := by
  obtain ⟨F, o⟩ := r.own
  refine ⟨r.zh, r.yh, r.zy, r.yt, hl, fun k => match f k with | none => [] | some j => F j, fun k => ?_, fun k => ?_, fun k k' a ha ha' => ?_, fun k a ha => ?_⟩
  · have hk := h k
    cases e : f k with
    | none =>
      rw [e] at hk
      rcases hk with hk | ⟨x, v, h1, h2, h3⟩
      · rw [hk]; exact rfl
      · rw [h1]; exact ⟨rfl, v, h2, h3⟩
    | some j =>
      rw [e] at hk
      rw [hk.1, hk.2]
      exact o.at_ j
  · cases e : f k with
    | none => exact .nil
    | some j => exact o.nd j
  · cases e : f k with
    | none => rw [e] at ha; cases ha
    | some j =>
      rw [e] at ha
      cases e' : f k' with
      | none => rw [e'] at ha'; cases ha'
      | some j' =>
        rw [e'] at ha'
        have := o.dj j j' a ha ha'
        subst this
        exact inj k k' j e e'
  · cases e : f k with
    | none => rw [e] at ha; cases ha
    | some j =>
      rw [e] at ha
      exact o.fr j a ha
theorem getD_app_lt {α : Type} {l r : List α} {i : Nat} {d : α} (h : i < l.length) : (l ++ r).getD i d = l.getD i d := by
  rw [List.getD_eq_getElem?_getD, List.getD_eq_getElem?_getD, List.getElem?_append_left h]
theorem getD_app_ge {α : Type} {l r : List α} {i : Nat} {d : α} (h : l.length ≤ i) : (l ++ r).getD i d = r.getD (i - l.length) d := by
  rw [List.getD_eq_getElem?_getD, List.getD_eq_getElem?_getD, List.getElem?_append_right h]
theorem getD_out {α : Type} {l : List α} {i : Nat} {d : α} (h : l.length ≤ i) : l.getD i d = d := by
  rw [List.getD_eq_getElem?_getD, List.getElem?_eq_none h]; rfl
theorem getD_set_self {α : Type} {l : List α} {i : Nat} {d x : α} (h : i < l.length) : (l.set i x).getD i d = x := by
  rw [List.getD_eq_getElem?_getD, List.getElem?_set_self h]; rfl
theorem getD_set_ne {α : Type} {l : List α} {i j : Nat} {d x : α} (h : i ≠ j) : (l.set i x).getD j d = l.getD j d := by
  rw [List.getD_eq_getElem?_getD, List.getD_eq_getElem?_getD, List.getElem?_set_ne h]
/-- the last slots put aside: whatever happens to the others, they stand -/
theorem Rel.frame {ts : St} {us : S} (r : Rel K Z Y H (σ ++ ts) (s ++ us)) (hl : σ.length = s.length) :
    ∃ Y', Same Y Y' ∧ Rel K Z Y' H σ s ∧ (∀ Z1 H1 σ1 s1, Same Z Z1 → Rel K Z1 Y' H1 σ1 s1 → Rel K Z1 Y H1 (σ1 ++ ts) (s1 ++ us)) ∧ ∀ j, ∃ F, SlotAt K Z Y' (ts.getD j none) (us.getD j .no) F := by
  classical
  obtain ⟨F, o⟩ := r.own
  have hl2 : ts.length = us.length := by
    have := r.len
    rw [List.length_append, List.length_append] at this
    omega
  -- what the last slots hold
  refine ⟨fun a => if ∃ i, σ.length ≤ i ∧ a ∈ F i then H a else Y a, fun a q e => ?_, ⟨r.zh, fun a q e => ?_, fun a hz => ?_, fun a vs => ?_, hl, fun i => if i < σ.length then F i else [], fun i => ?_, fun i => ?_, fun i j a ha ha' => ?_, fun i a ha => ?_⟩, ?_⟩
  · show (if _ then _ else _) = _
    split
    · rename_i hc
      obtain ⟨i, _, hi⟩ := hc
      rw [(o.fr i a hi).2] at e; cases e
    · exact e
  · have e : (if ∃ i, σ.length ≤ i ∧ a ∈ F i then H a else Y a) = some q := e
    split at e
    · exact e
    · exact r.yh a q e
  · show (if _ then _ else _) = _
    split
    · rename_i hc
      obtain ⟨i, _, hi⟩ := hc
      exact absurd (o.fr i a hi).1 hz
    · exact r.zy a hz
  · show (if _ then _ else _) ≠ _
    split
    · rename_i hc
      obtain ⟨i, _, hi⟩ := hc
      exact (o.at_ i).nt a hi vs
    · exact r.yt a vs
  · by_cases hi : i < σ.length
    · rw [if_pos hi]
      have := o.at_ i
      rw [getD_app_lt hi, getD_app_lt (by omega)] at this
      exact this
    · rw [if_neg hi, getD_out (l := s) (by omega)]
      exact rfl
  · by_cases hi : i < σ.length
    · rw [if_pos hi]; exact o.nd i
    · rw [if_neg hi]; exact .nil
  · by_cases hi : i < σ.length
    · by_cases hj : j < σ.length
      · rw [if_pos hi] at ha; rw [if_pos hj] at ha'
        exact o.dj i j a ha ha'
      · rw [if_neg hj] at ha'; cases ha'
    · rw [if_neg hi] at ha; cases ha
  · by_cases hi : i < σ.length
    · rw [if_pos hi] at ha
      refine ⟨(o.fr i a ha).1, ?_⟩
      show (if _ then _ else _) = _
      rw [if_neg]
      · exact (o.fr i a ha).2
      · rintro ⟨j, hj, ha'⟩
        have := o.dj i j a ha ha'
        omega
    · rw [if_neg hi] at ha; cases ha
  refine ⟨?_, fun j => ⟨F (σ.length + j), ?_⟩⟩
  rotate_left
  · have q := o.at_ (σ.length + j)
    rw [getD_app_ge (by omega), getD_app_ge (by omega), ← hl, Nat.add_sub_cancel_left] at q
    exact q.mono (Same.refl _) fun a ha ob e => (if_pos ⟨_, Nat.le_add_right _ _, ha⟩ : (if ∃ i, σ.length ≤ i ∧ a ∈ F i then H a else Y a) = H a).trans e
  · intro Z1 H1 σ1 s1 hz r1
    obtain ⟨F1, o1⟩ := r1.own
    have yy : ∀ i, σ.length ≤ i → ∀ a ∈ F i, (if ∃ i, σ.length ≤ i ∧ a ∈ F i then H a else Y a) = H a := fun i hi a ha => if_pos ⟨i, hi, ha⟩
    refine ⟨r1.zh, fun a q e => r1.yh a q ?_, fun a hza => ?_, r.yt, by rw [List.length_append, List.length_append, r1.len, hl2], fun i => if i < σ1.length then F1 i else F (i - σ1.length + σ.length), fun i => ?_, fun i => ?_, fun i j a ha ha' => ?_, fun i a ha => ?_⟩
    · show (if _ then _ else _) = _
      split
      · rename_i hc
        obtain ⟨i, _, hi⟩ := hc
        rw [(o.fr i a hi).2] at e; cases e
      · exact e
    · have q := r1.zy a hza
      have q : (if ∃ i, σ.length ≤ i ∧ a ∈ F i then H a else Y a) = none := q
      split at q
      · rename_i hc
        obtain ⟨i, _, hi⟩ := hc
        exact (o.fr i a hi).2
      · exact q
    · by_cases hi : i < σ1.length
      · rw [if_pos hi, getD_app_lt hi, getD_app_lt (by have := r1.len; omega)]
        exact o1.at_ i
      · rw [if_neg hi, getD_app_ge (by omega), getD_app_ge (by have := r1.len; omega), ← r1.len]
        have q := o.at_ (i - σ1.length + σ.length)
        rw [getD_app_ge (by omega), getD_app_ge (by omega), ← hl, Nat.add_sub_cancel] at q
        refine q.mono hz fun a ha ob e => ?_
        refine r1.yh a ob ?_
        exact (yy _ (by omega) a ha).trans e
    · by_cases hi : i < σ1.length
      · rw [if_pos hi]; exact o1.nd i
      · rw [if_neg hi]; exact o.nd _
    · have cross : ∀ i k, a ∈ F1 i → σ.length ≤ k → a ∈ F k → False := fun i k h1 hk h2 => by
        have q := (o1.fr i a h1).2
        exact (o.at_ k).there a h2 ((yy k hk a h2).symm.trans q)
      by_cases hi : i < σ1.length
      · rw [if_pos hi] at ha
        by_cases hj : j < σ1.length
        · rw [if_pos hj] at ha'; exact o1.dj i j a ha ha'
        · rw [if_neg hj] at ha'; exact (cross i _ ha (by omega) ha').elim
      · rw [if_neg hi] at ha
        by_cases hj : j < σ1.length
        · rw [if_pos hj] at ha'; exact (cross j _ ha' (by omega) ha).elim
        · rw [if_neg hj] at ha'
          have := o.dj _ _ a ha ha'
          omega
    · by_cases hi : i < σ1.length
      · rw [if_pos hi] at ha
        have q := o1.fr i a ha
        refine ⟨q.1, ?_⟩
        have q2 : (if ∃ i, σ.length ≤ i ∧ a ∈ F i then H a else Y a) = none := q.2
        split at q2
        · rename_i hc
          obtain ⟨j, _, hj⟩ := hc
          exact (o.fr j a hj).2
        · exact q2
      · rw [if_neg hi] at ha
        refine ⟨?_, (o.fr _ a ha).2⟩
        cases e : Z1 a with
        | none => rfl
        | some q =>
          have := r1.zy a (by rw [e]; exact fun z => nomatch z)
          exact absurd ((yy _ (by omega) a ha).symm.trans this) ((o.at_ _).there a ha)
/-- the heap and what nobody changes have grown -/
theorem Rel.grow (r : Rel K Z Y H σ s) (hh : Same H H') (hz : Same Z Z') (zh : Same Z' H') (new : ∀ a, H a ≠ none → Z' a = Z a) : Rel K Z' Y H' σ s := by
  obtain ⟨F, o⟩ := r.own
  refine ⟨zh, fun a q e => hh a q (r.yh a q e), fun a hz' => ?_, r.yt, r.len, F, fun i => ?_, o.nd, o.dj, fun i a ha => ?_⟩
  · cases e : Y a with
    | none => rfl
    | some q =>
      have h1 : H a ≠ none := by rw [r.yh a q e]; exact fun z => nomatch z
      rw [new a h1] at hz'
      rw [r.zy a hz'] at e; cases e
  · exact (o.at_ i).mono hz fun a _ ob e => hh a ob e
  · have h1 := (o.at_ i).there a ha
    rw [new a h1]
    exact o.fr i a ha
theorem same_upd {H : Hp} {p : Addr} {o : HO} (h : H p = none) : Same H (upd H p o) := fun b x e => by
  rw [upd_ne (ne_of_none e h)]
  exact e
theorem Rel.fresh (r : Rel K Z Y H σ s) {p : Addr} (h : H p = none) : Z p = none := r.zh.free h
/-- a new slot behind the others, of new things -/
theorem Rel.push (r : Rel K Z Y H σ s) {v : Option V} {sv : SV} {F : List Addr} (hh : Same H H') (hz : Same Z Z') (zh : Same Z' H') (new : ∀ a, H a ≠ none → Z' a = Z a) (h : SlotAt K Z' H' v sv F) (nd : F.Nodup)
    (fr : ∀ a ∈ F, H a = none ∧ Z' a = none) : Rel K Z' Y H' (σ ++ [v]) (s ++ [sv]) := by
  obtain ⟨G, o⟩ := r.own
  have g := r.grow hh hz zh new
  have hd : ∀ i, ∀ a ∈ F, a ∉ G i := fun i a ha hg => (o.at_ i).there a hg (fr a ha).1
  have o' : OwnF K Z' Y H' σ s G := ⟨fun i => (o.at_ i).mono hz fun a _ ob e => hh a ob e, o.nd, o.dj, fun i a ha => by
    rw [new a ((o.at_ i).there a ha)]
    exact o.fr i a ha⟩
  refine ⟨zh, g.yh, g.zy, g.yt, by rw [List.length_append, List.length_append, r.len]; rfl, fun i => if i = σ.length then F else G i, fun i => ?_, fun i => ?_, fun i j a ha ha' => ?_, fun i a ha => ?_⟩
  · by_cases hi : i = σ.length
    · rw [if_pos hi, getD_app_ge (by omega), getD_app_ge (by have := r.len; omega), hi, Nat.sub_self, ← r.len, Nat.sub_self]
      exact h
    · rw [if_neg hi]
      have q := o'.at_ i
      by_cases hlt : i < σ.length
      · rw [getD_app_lt hlt, getD_app_lt (by have := r.len; omega)]
        exact q
      · rw [getD_out (l := s ++ [sv]) (by rw [List.length_append]; have := r.len; show s.length + 1 ≤ i; omega)]
        rw [getD_out (l := s) (by have := r.len; omega)] at q
        exact q
  · by_cases hi : i = σ.length
    · rw [if_pos hi]; exact nd
    · rw [if_neg hi]; exact o'.nd i
  · by_cases hi : i = σ.length
    · rw [if_pos hi] at ha
      by_cases hj : j = σ.length
      · rw [hi, hj]
      · rw [if_neg hj] at ha'; exact (hd j a ha ha').elim
    · rw [if_neg hi] at ha
      by_cases hj : j = σ.length
      · rw [if_pos hj] at ha'; exact (hd i a ha' ha).elim
      · rw [if_neg hj] at ha'; exact o'.dj i j a ha ha'
  · by_cases hi : i = σ.length
    · rw [if_pos hi] at ha
      refine ⟨(fr a ha).2, ?_⟩
      cases e : Y a with
      | none => rfl
      | some q => exact absurd (fr a ha).1 (by rw [r.yh a q e]; exact fun z => nomatch z)
    · rw [if_neg hi] at ha; exact o'.fr i a ha
theorem Rel.push0 (r : Rel K Z Y H σ s) {v : Option V} {sv : SV} (h : SlotAt K Z H v sv []) : Rel K Z Y H (σ ++ [v]) (s ++ [sv]) :=
  r.push (Same.refl _) (Same.refl _) r.zh (fun _ _ => rfl) h .nil (fun a ha => nomatch ha)
theorem Rel.pushD (r : Rel K Z Y H σ s) {v : V} {x : D} (h : Rp K Z v x) : Rel K Z Y H (σ ++ [some v]) (s ++ [.d x]) := r.push0 ⟨rfl, v, rfl, h⟩
theorem Rel.pushN (r : Rel K Z Y H σ s) {v : Option V} : Rel K Z Y H (σ ++ [v]) (s ++ [.no]) := r.push0 rfl
/-- a new list -/
theorem Rel.newL (r : Rel K Z Y H σ s) {p : Addr} {vs : List V} {xs : List D} (h : H p = none) (hz : vs.length ≤ sizeLine) (a : RpAll K Z vs xs) : Rel K Z Y (upd H p (.lst vs)) (σ ++ [some (.ref p)]) (s ++ [.l xs]) :=
  r.push (F := [p]) (same_upd h) (Same.refl _) (r.zh.trans (same_upd h)) (fun _ _ => rfl) ⟨p, vs, rfl, rfl, upd_same, hz, a⟩ (by simp) fun a ha => by
    obtain rfl : a = p := by simpa using ha
    exact ⟨h, r.fresh h⟩
/-- what a slot alone holds: nobody else speaks of it -/
theorem OwnF.lone {F : Nat → List Addr} (o : OwnF K Z Y H σ s F) {i j : Nat} {a : Addr} (h : a ∈ F i) (hj : j ≠ i) : a ∉ F j := fun h' => hj (o.dj j i a h' h)
/-- a slot's list is written -/
theorem Rel.write (r : Rel K Z Y H σ s) {i : Nat} {p : Addr} {vs' : List V} {xs xs' : List D} (hs : s.getD i .no = .l xs) (hv : σ.getD i none = some (.ref p)) (hz : vs'.length ≤ sizeLine) (a : RpAll K Z vs' xs') :
    Rel K Z Y (upd H p (.lst vs')) σ (s.set i (.l xs')) := by
  obtain ⟨F, o⟩ := r.own
  have q := o.at_ i
  rw [hs, hv] at q
  obtain ⟨p', vs, h1, h2, h3, h4, h5⟩ := q
  cases h1
  have hi : i < s.length := by
    by_cases h : i < s.length
    · exact h
    · rw [getD_out (by omega)] at hs; cases hs
  have pf := o.fr i p (by rw [h2]; exact List.mem_cons_self)
  refine ⟨fun b x e => ?_, fun b x e => ?_, r.zy, r.yt, by rw [List.length_set]; exact r.len, F, fun j => ?_, o.nd, o.dj, o.fr⟩
  · rw [upd_ne (fun z => by rw [z, pf.1] at e; cases e)]; exact r.zh b x e
  · rw [upd_ne (fun z => by rw [z, pf.2] at e; cases e)]; exact r.yh b x e
  · by_cases hj : i = j
    · subst hj
      rw [getD_set_self hi, hv, h2]
      exact ⟨p, vs', rfl, rfl, upd_same, hz, a⟩
    · rw [getD_set_ne hj]
      refine (o.at_ j).mono (Same.refl _) fun b hb ob e => ?_
      rw [upd_ne]
      · exact e
      · rintro rfl
        exact hj (o.dj i j b (by rw [h2]; exact List.mem_cons_self) hb)
/-- what a slot's content is as a value -/
def asD : SV → Option D
  | .d x => some x
  | .l xs => some (.list xs)
  | .ll xss => some (.list (xss.map .list))
  | .dc kvs => some (.dict kvs)
  | .tp ws => some (.tuple (ws.map PV.asD))
  | .ob c fs => some (obD c (fs.map fun p => (.str p.1, p.2.asD)))
  | .no => none
  | .lo _ => none
theorem DcAt.rp {p : Addr} {kvs : List (D × D)} (h : DcAt K Z H p kvs) (e : Same Z H) : Rp K H (.ref p) (.dict kvs) := by
  rcases h with ⟨ks, e1, r⟩ | ⟨ks, kvs', e0, e1, r⟩
  · exact .dcK (.inl e1) (r.same e)
  · rw [e0]; exact .dcT e1 (r.same e)
mutual
theorem PartAt.rp0 (e : Same Z H) : ∀ (w : PV) {v : V} {F : List Addr}, PartAt K Z H v w F → Rp K H v w.asD
  | .d x, _, _, h => h.2.same e
  | .l xs, _, _, h => by
    obtain ⟨p, vs, h1, h2, h3, h4, h5⟩ := h
    rw [h1]
    exact .lst (.inl h3) h4 (h5.same e)
  | .dc kvs, _, _, h => by
    obtain ⟨p, h1, h2, h3⟩ := h
    rw [h1]
    exact h3.rp e
  | .o c fs, _, _, h => by
    obtain ⟨p, dx, vs, G, h1, h2, h3, h4, h5⟩ := h
    rw [h1]
    exact .obj h3 h4 (PsAt.rp0 e fs h5)
theorem PsAt.rp0 (e : Same Z H) : ∀ (fs : List (Str × PV)) {vs : List V} {F : List Addr}, PsAt K Z H vs fs F → RpK K H (obK ((fs.map (·.1)).zip vs)) (PV.asDs fs)
  | [], [], _, h => .nil
  | (n, w) :: fs, v :: vs, _, h => by
    obtain ⟨F1, F2, e1, h1, h2⟩ := h
    exact .cons (k := .inr n) (PartAt.rp0 e w h1) (PsAt.rp0 e fs h2)
  | [], _ :: _, _, h => h.elim
  | _ :: _, [], _, h => h.elim
end
theorem PartAt.rp {v : V} {w : PV} {F : List Addr} (h : PartAt K Z H v w F) (e : Same Z H) : Rp K H v w.asD := PartAt.rp0 e w h
theorem TpAt.all {vs : List V} {ws : List PV} {F : List Addr} (h : TpAt K Z H vs ws F) (e : Same Z H) : RpAll K H vs (ws.map PV.asD) := by
  induction h with
  | nil => exact .nil
  | cons h r ih => exact .cons (h.rp e) ih
theorem TpAt.keys (e : Same Z H) : ∀ {fs : List (Str × PV)} {vs : List V} {F : List Addr}, TpAt K Z H vs (fs.map (·.2)) F → RpK K H (obK ((fs.map (·.1)).zip vs)) (fs.map fun p => (.str p.1, p.2.asD))
  | [], _, _, .nil => .nil
  | (n, w) :: fs, _, _, .cons h r => .cons (k := .inr n) (h.rp e) (TpAt.keys e r)
theorem LL.all : ∀ {qs : List Addr} {xss : List (List D)}, LL K Z H qs xss → Same Z H → RpAll K H (qs.map V.ref) (xss.map .list)
  | _, _, .nil, _ => .nil
  | _, _, .cons h z a r, e => .cons (.lst (.inl h) z (a.same e)) (LL.all r e)
theorem SlotAt.asD {v : Option V} {sv : SV} {F : List Addr} {x : D} (h : SlotAt K Z H v sv F) (e : Same Z H) (ha : asD sv = some x) : ∃ u, v = some u ∧ Rp K H u x := by
  cases sv with
  | no => cases ha
  | lo ws => cases ha
  | d y =>
    cases ha
    obtain ⟨_, u, h2, r⟩ := h
    exact ⟨u, h2, r.same e⟩
  | l xs =>
    cases ha
    obtain ⟨p, vs, h1, h2, h3, h4, h5⟩ := h
    exact ⟨_, h1, .lst (.inl h3) h4 (h5.same e)⟩
  | ll xss =>
    cases ha
    obtain ⟨p, qs, h1, h2, h3, h4, h5⟩ := h
    exact ⟨_, h1, .lst (.inl h3) (by rw [List.length_map]; exact h4) (h5.all e)⟩
  | dc kvs =>
    cases ha
    obtain ⟨p, h1, h2, h3⟩ := h
    exact ⟨_, h1, h3.rp e⟩
  | ob c fs =>
    cases ha
    obtain ⟨p, dx, vs, G, h1, h2, h3, h4, h5⟩ := h
    exact ⟨_, h1, .obj h3 h4 (h5.keys e)⟩
  | tp ws =>
    cases ha
    obtain ⟨p, vs, h1, h3, h4, h5⟩ := h
    exact ⟨_, h1, .tup (e _ _ h3) h4 (h5.all e)⟩
/-- nobody changes any more what a slot held alone -/
theorem Rel.freeze (r : Rel K Z Y H σ s) {i : Nat} {x : D} (ha : Hs.asD (s.getD i .no) = some x) :
    ∃ Z', Same Z Z' ∧ Rel K Z' Y H σ (s.set i (.d x)) := by
  classical
  obtain ⟨F, o⟩ := r.own
  have hi : i < s.length := by
    by_cases h : i < s.length
    · exact h
    · rw [getD_out (by omega)] at ha; cases ha
  let Z' : Hp := fun a => if a ∈ F i then H a else Z a
  have hz : Same Z Z' := fun a q e => by
    show (if _ then _ else _) = _
    rw [if_neg (fun h => by rw [(o.fr i a h).1] at e; cases e)]
    exact e
  have zh : Same Z' H := fun a q e => by
    have e : (if a ∈ F i then H a else Z a) = some q := e
    split at e
    · exact e
    · exact r.zh a q e
  refine ⟨Z', hz, zh, r.yh, fun a ha => ?_, r.yt, by rw [List.length_set]; exact r.len, fun j => if j = i then [] else F j, fun j => ?_, fun j => ?_, fun j k a ha ha' => ?_, fun j a ha => ?_⟩
  · have e : (if a ∈ F i then H a else Z a) ≠ none := ha
    split at e
    · exact (o.fr i a (by assumption)).2
    · exact r.zy a e
  · by_cases hj : j = i
    · subst hj
      rw [if_pos rfl, getD_set_self hi]
      -- within Z' alone
      have q := o.at_ j
      have q' : SlotAt K Z' Z' (σ.getD j none) (s.getD j .no) (F j) := q.mono hz fun a ha ob e => by
        show (if _ then _ else _) = _
        rw [if_pos ha]; exact e
      obtain ⟨u, h1, h2⟩ := q'.asD (Same.refl _) ha
      exact ⟨rfl, u, h1, h2⟩
    · rw [if_neg hj, getD_set_ne (Ne.symm hj)]
      exact (o.at_ j).mono hz fun a _ ob e => e
  · by_cases hj : j = i
    · rw [if_pos hj]; exact .nil
    · rw [if_neg hj]; exact o.nd j
  · by_cases hj : j = i
    · rw [if_pos hj] at ha; cases ha
    · rw [if_neg hj] at ha
      by_cases hk : k = i
      · rw [if_pos hk] at ha'; cases ha'
      · rw [if_neg hk] at ha'; exact o.dj j k a ha ha'
  · by_cases hj : j = i
    · rw [if_pos hj] at ha; cases ha
    · rw [if_neg hj] at ha
      refine ⟨?_, (o.fr j a ha).2⟩
      show (if _ then _ else _) = _
      rw [if_neg (o.lone ha (Ne.symm hj))]
      exact (o.fr j a ha).1
end
end Hs
namespace Hs
open PySem
abbrev XF := Str → S → Prop
abbrev FE := XF → S → (R → S → Prop) → Prop
abbrev FT := XF → S → (Bool → S → Prop) → Prop
abbrev FA := XF → S → (List R → S → Prop) → Prop
abbrev FO := XF → S → (Option Int → S → Prop) → Prop
structure FEnds where
  nx : S → Prop
  rt : R → S → Prop
  bk : S → Prop := fun _ => False
  ct : S → Prop := fun _ => False
  xx : XF
abbrev FS := FEnds → S → Prop
abbrev FG := D → S → (S → Prop) → Prop
abbrev FI := XF → S → (List D → S → Prop) → Prop
/-- a def: its arguments' slots; what is wanted of an error and of an answer, with the arguments' slots as they end -/
abbrev FSem := List SV → XF → (R → S → Prop) → Prop
abbrev V1 := D → (R → Prop) → Prop
abbrev V2 := D → D → (R → Prop) → Prop
abbrev VN := List D → (R → Prop) → Prop
def svR : R → SV
  | .d x => .d x
  | .own v => v
  | .top _ => .no
/-- a slot's content as a value that may be looked at -/
def viewS : SV → Option D
  | .d x => some x
  | .l xs => some (.list xs)
  | .dc kvs => some (.dict kvs)
  | _ => none
def viewR (s : S) : R → Option D
  | .d x => some x
  | .own v => viewS v
  | .top i => viewS (s.getD i .no)
def look (s : S) (r : R) (k : D → Prop) : Prop :=
  match viewR s r with
  | some d => k d
  | none => False
/-- .. that nobody changes from now on -/
def frz (r : R) (s : S) (k : D → S → Prop) : Prop :=
  match r with
  | .d x => k x s
  | .own v => match asD v with
    | some x => k x s
    | none => False
  | .top i => match asD (s.getD i .no) with
    | some x => k x (s.set i (.d x))
    | none => False
def frzAll : List R → S → (List D → S → Prop) → Prop
  | [], s, k => k [] s
  | r :: rs, s, k => frz r s fun x s1 => frzAll rs s1 fun xs s2 => k (x :: xs) s2
def fVar (i : Nat) : FE := fun _ s Q =>
  match s.getD i .no with
  | .no => False
  | .d x => Q (.d x) s
  | _ => Q (.top i) s
def fC (x : D) : FE := fun _ s Q => Q (.d x) s
def fNil : FA := fun _ s Q => Q [] s
def fCons (a : FE) (r : FA) : FA := fun X s Q => a X s fun x s1 => r X s1 fun xs s2 => Q (x :: xs) s2
def fTup (a : FA) : FE := fun X s Q => a X s fun rs s1 => frzAll rs s1 fun ds s2 => Q (.d (.tuple ds)) s2
def fLst (a : FA) : FE := fun X s Q => a X s fun rs s1 => frzAll rs s1 fun ds s2 => Q (.own (.l ds)) s2
def fOp (g : V2) (a b : FE) : FE := fun X s Q => a X s fun r1 s1 => b X s1 fun r2 s2 => look s2 r1 fun d => look s2 r2 fun e => g d e fun r => Q r s2
def fUn (g : V1) (a : FE) : FE := fun X s Q => a X s fun r1 s1 => look s1 r1 fun d => g d fun r => Q r s1
/-- a built-in called with values that it looks at -/
def fBlt (g : VN) (a : FA) : FE := fun X s Q => a X s fun rs s1 => lookAll s1 rs fun ds => g ds fun r => Q r s1
where lookAll (s : S) : List R → (List D → Prop) → Prop
  | [], k => k []
  | r :: rs, k => look s r fun d => lookAll s rs fun ds => k (d :: ds)
def isB (r : R) (k : Bool → Prop) : Prop :=
  match r with
  | .d (.bool b) => k b
  | _ => False
def fAndV (a b : FE) : FE := fun X s Q => a X s fun r s1 => isB r fun c => if c = true then b X s1 Q else Q (.d (.bool false)) s1
def fOrV (a b : FE) : FE := fun X s Q => a X s fun r s1 => isB r fun c => if c = true then Q (.d (.bool true)) s1 else b X s1 Q
def fNotV (a : FE) : FE := fun X s Q => a X s fun r s1 => isB r fun c => Q (.d (.bool (!c))) s1
def fIfE (t : FT) (a b : FE) : FE := fun X s Q => t X s fun c s1 => if c = true then a X s1 Q else b X s1 Q
/-- a < b < c -/
def fChain (g g' : V2) (a b c : FE) : FE := fun X s Q => a X s fun r1 s1 => b X s1 fun r2 s2 => look s2 r1 fun d => look s2 r2 fun e => g d e fun r => isB r fun k =>
  if k = true then c X s2 fun r3 s3 => look s3 r2 fun e' => look s3 r3 fun h => g' e' h fun z => Q z s3 else Q (.d (.bool false)) s2
def fNoPart : FO := fun _ s Q => Q none s
def fPart (a : FE) : FO := fun X s Q => a X s fun r s1 => match r with
  | .d (.int i) => Q (some i) s1
  | _ => False
def fSl (g : D → Option Int → Option Int → (R → Prop) → Prop) (a : FE) (lo hi : FO) : FE := fun X s Q => a X s fun r s1 => lo X s1 fun l s2 => hi X s2 fun h s3 => look s3 r fun d => g d l h fun z => Q z s3
def fB (a : FE) : FT := fun X s Q => a X s fun r s1 => isB r fun c => Q c s1
def fAnd (t u : FT) : FT := fun X s Q => t X s fun c s1 => if c = true then u X s1 Q else Q false s1
def fOr (t u : FT) : FT := fun X s Q => t X s fun c s1 => if c = true then Q true s1 else u X s1 Q
def fNot (t : FT) : FT := fun X s Q => t X s fun c s1 => Q (!c) s1
def fYes : FT := fun _ s Q => Q true s
def bindA : List Bool → List R → S → (List SV → S → Prop) → Prop
  | [], [], s, k => k [] s
  | false :: ms, r :: rs, s, k => frz r s fun x s1 => bindA ms rs s1 fun svs s2 => k (.d x :: svs) s2
  | true :: ms, .top i :: rs, s, k => bindA ms rs (s.set i .no) fun svs s2 => k (s.getD i .no :: svs) s2
  | true :: ms, .d x :: rs, s, k => bindA ms rs s fun svs s2 => k (.d x :: svs) s2
  | true :: ms, .own v :: rs, s, k => bindA ms rs s fun svs s2 => k (v :: svs) s2
  | _, _, _, _ => False
/-- what the slots that were lent hold behind the call -/
def putB : List Bool → List R → S → S → S
  | true :: ms, .top i :: rs, f :: fin, s => putB ms rs fin (s.set i f)
  | _ :: ms, _ :: rs, _ :: fin, s => putB ms rs fin s
  | _, _, _, s => s
def fCall (sem : FSem) (ms : List Bool) (a : FA) : FE := fun X s Q => a X s fun rs s1 => bindA ms rs s1 fun svs s2 => sem svs (fun n fin => X n (putB ms rs fin s2)) fun r fin => Q r (putB ms rs fin s2)
def wipeS (s : S) : List Nat → S
  | [] => s
  | i :: is => wipeS (s.set i .no) is
def fComp (X : XF) (g : FG) (wp : List Nat) (t : FT) (e : FE) (Q : R → S → Prop) : List D → List D → S → Prop
  | [], acc, s => Q (.own (.l acc)) s
  | x :: xs, acc, s => g x s fun s1 => t X s1 fun b s2 => if b = true then e X s2 fun r s3 => frz r s3 fun d s4 => fComp X g wp t e Q xs (acc ++ [d]) (wipeS s4 wp) else fComp X g wp t e Q xs acc (wipeS s2 wp)
def fLc (it : FI) (g : FG) (wp : List Nat) (t : FT) (e : FE) : FE := fun X s Q => it X s fun xs s1 => xs.length ≤ sizeLine ∧ fComp (fun _ _ => False) g wp t e Q xs [] (wipeS s1 wp)
def iSeq (a : FE) : FI := fun X s Q => a X s fun r s1 => frz r s1 fun d s2 => match d with
  | .list xs => Q xs s2
  | .tuple xs => Q xs s2
  | _ => False
def lim62 (i : Int) : Prop := -(2 ^ 62) ≤ i ∧ i < 2 ^ 62
def rangeD (lo : Int) (n : Nat) : List D := (List.range n).map fun (k : Nat) => PyData.int (lo + (k : Int))
def iRange1 (a : FA) : FI := fun X s Q => a X s fun rs s1 => match rs with
  | [.d (.int j)] => lim62 j ∧ Q (rangeD 0 j.toNat) s1
  | _ => False
def iRange2 (a : FA) : FI := fun X s Q => a X s fun rs s2 => match rs with
  | [.d (.int i), .d (.int j)] => lim62 i ∧ lim62 j ∧ Q (rangeD i (j - i).toNat) s2
  | _ => False
def enumD (xs : List D) : List D := xs.zipIdx.map fun p => .tuple [.int (p.2 : Nat), p.1]
def iEnum (a : FA) : FI := fun X s Q => a X s fun rs s1 => frzAll rs s1 fun ds s2 => match ds with
  | [.list xs] => Q (enumD xs) s2
  | [.tuple xs] => Q (enumD xs) s2
  | _ => False
def zipD (xs ys : List D) : List D := List.zipWith (fun x y => .tuple [x, y]) xs ys
def iZip (a : FA) : FI := fun X s Q => a X s fun rs s1 => frzAll rs s1 fun ds s4 => match ds with
  | [.list xs, .list ys] => Q (zipD xs ys) s4
  | [.tuple xs, .list ys] => Q (zipD xs ys) s4
  | [.list xs, .tuple ys] => Q (zipD xs ys) s4
  | [.tuple xs, .tuple ys] => Q (zipD xs ys) s4
  | _ => False
def gNm (i : Nat) : FG := fun d s k => k (s.set i (.d d))
def gTp : List FG → FG := fun gs d s k => match d with
  | .tuple xs => gTps gs xs s k
  | _ => False
where gTps : List FG → List D → S → (S → Prop) → Prop
  | [], [], s, k => k s
  | g :: gs, x :: xs, s, k => g x s fun s1 => gTps gs xs s1 k
  | _, _, _, _ => False
def fNext : FS := fun E s => E.nx s
def fSeq (a b : FS) : FS := fun E s => a { E with nx := fun s1 => b E s1 } s
def fIfS (t : FT) (a b : FS) : FS := fun E s => t E.xx s fun c s1 => if c = true then a E s1 else b E s1
def fRet (a : FE) : FS := fun E s => a E.xx s E.rt
def fRetN : FS := fun E s => E.rt (.d .none) s
def fBreak : FS := fun E s => E.bk s
def fDrop (a : FE) : FS := fun E s => a E.xx s fun _ s1 => E.nx s1
def fRaise (n : Str) : FS := fun E s => E.xx n s
def putR (i : Nat) (r : R) (s : S) (k : S → Prop) : Prop :=
  match r with
  | .d x => k (s.set i (.d x))
  | .own v => k (s.set i v)
  | .top j => match asD (s.getD j .no) with
    | some x => k ((s.set j (.d x)).set i (.d x))
    | none => False
def fAsg (i : Nat) (a : FE) : FS := fun E s => a E.xx s fun r s1 => putR i r s1 E.nx
/-- a, b = e -/
def fUnp (g : FG) (a : FE) : FS := fun E s => a E.xx s fun r s1 => frz r s1 fun d s2 => g d s2 E.nx
/-- a, b = e1, e2 -/
def fPar (i j : Nat) (a : FA) : FS := fun E s => a E.xx s fun rs s2 => match rs with
  | [r1, r2] => frz r1 s2 fun d1 s3 => frz r2 s3 fun d2 s4 => E.nx ((s4.set i (.d d1)).set j (.d d2))
  | _ => False
def fLoop (g : FG) (wp : List Nat) (b : FS) (E : FEnds) : List D → S → Prop
  | [], s => E.nx s
  | x :: xs, s => g x s fun s1 => b { E with nx := fun s2 => fLoop g wp b E xs (wipeS s2 wp), ct := fun s2 => fLoop g wp b E xs (wipeS s2 wp), bk := fun s2 => E.nx (wipeS s2 wp) } s1
def fFor (it : FI) (g : FG) (wp : List Nat) (b : FS) : FS := fun E s => it E.xx s fun xs s1 => fLoop g wp b E xs (wipeS s1 wp)
def fWhileN (wp : List Nat) (t : FT) (b : FS) (E : FEnds) : Nat → S → Prop
  | 0, _ => False
  | n + 1, s => t E.xx s fun c s1 => if c = true then b { E with nx := fun s2 => fWhileN wp t b E n (wipeS s2 wp), ct := fun s2 => fWhileN wp t b E n (wipeS s2 wp), bk := fun s2 => E.nx (wipeS s2 wp) } s1 else E.nx s1
def fWhile (wp : List Nat) (t : FT) (b : FS) : FS := fun E s => ∃ n, fWhileN wp t b E n (wipeS s wp)
/-- a list of a slot's own, changed by a method -/
def onL (i : Nat) (s : S) (k : List D → Prop) : Prop :=
  match s.getD i .no with
  | .l xs => k xs
  | _ => False
abbrev LM := List D → List D → (D → List D → Prop) → Prop
/-- a method of a slot's own list: what it gives, what the list holds behind it -/
def fLm (i : Nat) (g : LM) (a : FA) : FE := fun X s Q => onL i s fun _ => a X s fun rs s1 => frzAll rs s1 fun ds s2 => onL i s2 fun xs => g xs ds fun d xs' => Q (.d d) (s2.set i (.l xs'))
def mAppend : LM := fun xs ds k => match ds with
  | [d] => xs.length < sizeLine ∧ k .none (xs ++ [d])
  | _ => False
def mExtend : LM := fun xs ds k => match ds with
  | [.list ys] => xs.length + ys.length ≤ sizeLine ∧ k .none (xs ++ ys)
  | _ => False
def mPopAt : LM := fun xs ds k => match ds with
  | [.int j] => 0 ≤ j ∧ j < 2 ^ 63 ∧ match xs[j.toNat]? with
    | some d => k d (xs.eraseIdx j.toNat)
    | none => False
  | _ => False
/-- xs[j] = e -/
def fSetIx (i : Nat) (j a : FE) : FS := fun E s => a E.xx s fun r s1 => onL i s1 fun _ => j E.xx s1 fun rj s2 => match rj with
  | .d (.int k) => frz r s2 fun d s3 => onL i s3 fun xs => 0 ≤ k ∧ k.toNat < xs.length ∧ E.nx (s3.set i (.l (xs.set k.toNat d)))
  | _ => False
def outR (r : R) (s : S) (k : R → S → Prop) : Prop :=
  match r with
  | .d x => k (.d x) s
  | .own v => k (.own v) s
  | .top i => k (.own (s.getD i .no)) (s.set i .no)
def semOf (np nl : Nat) (b : FS) : FSem := fun svs X Q => b { nx := fun s => Q (.d .none) (s.take np), rt := fun r s => outR r s fun r' s' => Q r' (s'.take np), xx := fun n s => X n (s.take np) } (svs ++ List.replicate (nl - np) .no)
end Hs
namespace Hs
open PySem PySem.Spec PyProof.Rows L2
section
variable {K : PySem.W.Frag} {Z Z' Y Y' H H' : Hp} {σ σ' : St} {s s' : S}
theorem Rel.take {ts : St} {us : S} (r : Rel K Z Y H (σ ++ ts) (s ++ us)) (hl : σ.length = s.length) : Rel K Z Y H σ s :=
  r.re (fun k => if k < σ.length then some k else none) hl (fun k => by
    by_cases h : k < σ.length
    · simp only [if_pos h]
      exact ⟨(getD_app_lt (by omega)).symm, (getD_app_lt h).symm⟩
    · simp only [if_neg h]
      exact .inl (getD_out (by omega))) (fun k k' j h h' => by
    by_cases a : k < σ.length
    · by_cases b : k' < σ.length
      · rw [if_pos a] at h; rw [if_pos b] at h'; cases h; cases h'; rfl
      · rw [if_neg b] at h'; cases h'
    · rw [if_neg a] at h; cases h)
theorem Rel.swap {σa σb σc : St} {sa sb sc : S} (r : Rel K Z Y H (σa ++ σb ++ σc) (sa ++ sb ++ sc)) (ha : σa.length = sa.length) (hb : σb.length = sb.length) : Rel K Z Y H (σa ++ σc ++ σb) (sa ++ sc ++ sb) := by
  have hl := r.len
  simp only [List.length_append] at hl
  refine r.re (fun k => if k < σa.length then some k else if k < σa.length + σc.length then some (k + σb.length) else if k < σa.length + σc.length + σb.length then some (k - σc.length) else none)
    (by simp only [List.length_append]; omega) (fun k => ?_) fun k k' j h h' => ?_
  · by_cases h1 : k < σa.length
    · simp only [if_pos h1]
      refine ⟨?_, ?_⟩
      · rw [List.append_assoc, List.append_assoc, getD_app_lt (by omega), getD_app_lt (by omega)]
      · rw [List.append_assoc, List.append_assoc, getD_app_lt h1, getD_app_lt h1]
    · simp only [if_neg h1]
      by_cases h2 : k < σa.length + σc.length
      · simp only [if_pos h2]
        refine ⟨?_, ?_⟩
        · rw [getD_app_lt (l := sa ++ sc) (by rw [List.length_append]; omega), getD_app_ge (by omega), getD_app_ge (by rw [List.length_append]; omega), List.length_append]
          congr 1; omega
        · rw [getD_app_lt (l := σa ++ σc) (by rw [List.length_append]; omega), getD_app_ge (by omega), getD_app_ge (by rw [List.length_append]; omega), List.length_append]
          congr 1; omega
      · simp only [if_neg h2]
        by_cases h3 : k < σa.length + σc.length + σb.length
        · simp only [if_pos h3]
          refine ⟨?_, ?_⟩
          · rw [getD_app_ge (l := sa ++ sc) (by rw [List.length_append]; omega), List.append_assoc sa sb sc, getD_app_ge (l := sa) (by omega), getD_app_lt (l := sb) (by omega), List.length_append]
            congr 1; omega
          · rw [getD_app_ge (l := σa ++ σc) (by rw [List.length_append]; omega), List.append_assoc σa σb σc, getD_app_ge (l := σa) (by omega), getD_app_lt (l := σb) (by omega), List.length_append]
            congr 1; omega
        · simp only [if_neg h3]
          exact .inl (getD_out (by simp only [List.length_append]; omega))
  · split at h <;> split at h' <;> (try split at h) <;> (try split at h') <;> (try split at h) <;> (try split at h') <;> (try cases h) <;> (try injection h with h) <;> (try injection h' with h') <;> (try omega) <;> (try cases h')
    all_goals omega
def Tops (σ : St) (vs : List V) (rs : List R) : Prop := ∀ (k i : Nat), rs[k]? = some (R.top i) → i < σ.length ∧ σ.getD i none = vs[k]?
structure RelX (K : PySem.W.Frag) (Z Y H : Hp) (σ : St) (s : S) (vs : List V) (rs : List R) : Prop where
  rel : Rel K Z Y H (σ ++ vs.map some) (s ++ rs.map svR)
  l1 : σ.length = s.length
  l2 : vs.length = rs.length
  top : Tops σ vs rs
theorem RelX.rel0 {vs : List V} {rs : List R} (r : RelX K Z Y H σ s vs rs) : Rel K Z Y H σ s := r.rel.take r.l1
theorem RelX.nil (r : Rel K Z Y H σ s) : RelX K Z Y H σ s [] [] := ⟨by simpa using r, r.len, rfl, fun k i h => by simp at h⟩
theorem Tops.one {v : V} {r : R} (h : ∀ i, r = .top i → i < σ.length ∧ σ.getD i none = some v) : Tops σ [v] [r] := fun k i e => by
  cases k with
  | zero => exact h i (by simpa using e)
  | succ k => simp at e
theorem RelX.d (r : Rel K Z Y H σ s) {v : V} {x : D} (h : Rp K Z v x) : RelX K Z Y H σ s [v] [.d x] :=
  ⟨r.pushD h, r.len, rfl, .one fun i e => nomatch e⟩
theorem RelX.tp (r : Rel K Z Y H σ s) {v : V} {i : Nat} (hi : i < σ.length) (h : σ.getD i none = some v) : RelX K Z Y H σ s [v] [.top i] :=
  ⟨r.pushN, r.len, rfl, .one fun j e => by cases e; exact ⟨hi, h⟩⟩
theorem RelX.own {v : V} {w : SV} (hl : σ.length = s.length) (r : Rel K Z Y H (σ ++ [some v]) (s ++ [w])) : RelX K Z Y H σ s [v] [.own w] :=
  ⟨r, hl, rfl, .one fun i e => nomatch e⟩
/-- results put aside while others come -/
theorem RelX.frame {vs : List V} {rs : List R} (r : RelX K Z Y H σ s vs rs) :
    ∃ Y', Same Y Y' ∧ Rel K Z Y' H σ s ∧ (∀ Z1 H1 σ1 s1, Same Z Z1 → Rel K Z1 Y' H1 σ1 s1 → Rel K Z1 Y H1 σ1 s1) ∧
      (∀ Z1 H1 s1 ws qs, Same Z Z1 → RelX K Z1 Y' H1 σ s1 ws qs → RelX K Z1 Y H1 σ s1 (vs ++ ws) (rs ++ qs)) := by
  obtain ⟨Y', hy, r1, back, _⟩ := r.rel.frame r.l1
  refine ⟨Y', hy, r1, fun Z1 H1 σ1 s1 hz q => (back Z1 H1 σ1 s1 hz q).take q.len, fun Z1 H1 s1 ws qs hz q => ?_⟩
  have b := back Z1 H1 _ _ hz q.rel
  refine ⟨?_, q.l1, by rw [List.length_append, List.length_append, r.l2, q.l2], fun k i e => ?_⟩
  · rw [List.map_append, List.map_append, ← List.append_assoc, ← List.append_assoc]
    exact b.swap q.l1 (by rw [List.length_map, List.length_map]; exact q.l2)
  · by_cases hk : k < rs.length
    · rw [List.getElem?_append_left hk] at e
      rw [List.getElem?_append_left (by rw [r.l2]; exact hk)]
      exact r.top k i e
    · rw [List.getElem?_append_right (by omega)] at e
      rw [List.getElem?_append_right (by rw [r.l2]; omega), r.l2]
      exact q.top _ i e
/-- a thing looked at: its own items stand in Z -/
def RpV (K : PySem.W.Frag) (Z H : Hp) (v : V) (d : D) : Prop :=
  Rp K Z v d ∨ (∃ p vs xs, v = .ref p ∧ d = .list xs ∧ H p = some (.lst vs) ∧ vs.length ≤ sizeLine ∧ RpAll K Z vs xs) ∨ ∃ p kvs, v = .ref p ∧ d = .dict kvs ∧ DcAt K Z H p kvs
theorem RpV.rp {v : V} {d : D} (r : RpV K Z H v d) (e : Same Z H) : Rp K H v d := by
  rcases r with r | ⟨p, vs, xs, rfl, rfl, h, z, a⟩ | ⟨p, kvs, rfl, rfl, h⟩
  · exact r.same e
  · exact .lst (.inl h) z (a.same e)
  · exact h.rp e
theorem RpV.list {v : V} {xs : List D} (r : RpV K Z H v (.list xs)) (e : Same Z H) : ∃ p vs, v = .ref p ∧ Rd H p (.lst vs) ∧ vs.length ≤ sizeLine ∧ RpAll K Z vs xs := by
  rcases r with r | ⟨p, vs, xs', rfl, e2, h, z, a⟩ | ⟨p, kvs, rfl, e2, h⟩
  · cases r with
    | lst h z a => exact ⟨_, _, rfl, same_rd e h, z, a⟩
  · cases e2; exact ⟨p, vs, rfl, .inl h, z, a⟩
  · cases e2
theorem RpV.tuple {v : V} {xs : List D} (r : RpV K Z H v (.tuple xs)) (e : Same Z H) : ∃ p vs, v = .ref p ∧ SqT K H p vs ∧ vs.length ≤ sizeLine ∧ RpAll K Z vs xs := by
  rcases r with r | ⟨p, vs, xs', rfl, e2, h, z, a⟩ | ⟨p, kvs, rfl, e2, h⟩
  · cases r with
    | tup h z a => exact ⟨_, _, rfl, tupSq (e _ _ h), z, a⟩
  · cases e2
  · cases e2
theorem keyD_ne (k : Key) : keyD k ≠ .none := by
  cases k <;> exact fun h => nomatch h
theorem RpK.nolit {ks : List (Key × V)} {x : D} {r : List (D × D)} (h : RpK K H ks ((.none, x) :: r)) : False := by
  generalize e : ((PyData.none, x) :: r) = l at h
  cases h with
  | nil => cases e
  | cons _ _ =>
    injection e with e1 _
    injection e1 with e2 _
    exact keyD_ne _ e2.symm
theorem RpT.nolit {ks : List (List Key × V)} {x : D} {r : List (D × D)} (h : RpT K H ks ((.none, x) :: r)) : False := by
  generalize e : ((PyData.none, x) :: r) = l at h
  cases h with
  | nil => cases e
  | cons _ _ =>
    injection e with e1 _
    injection e1 with e2 _
    cases e2
theorem RpV.lit {v : V} {xs : List D} (r : RpV K Z H v (.dict [(.none, .list xs)])) (e : Same Z H) : ∃ (p : Addr) (ns : List Int), v = .ref p ∧ xs = ns.map PyData.int ∧ SqL K H p (ns.map V.int) ∧ ns.length ≤ sizeLine := by
  rcases r with r | ⟨p, vs, xs', rfl, e2, h, z, a⟩ | ⟨p, kvs, rfl, e2, h⟩
  · generalize e0 : (PyData.dict [(.none, .list xs)]) = d at r
    cases r with
    | lit h z =>
      unfold litD at e0
      injection e0 with e1
      injection e1 with e2 _
      injection e2 with _ e3
      injection e3 with e4
      exact ⟨_, _, rfl, e4, e.seq h, z⟩
    | exc h =>
      unfold excD at e0
      injection e0 with e1
      injection e1 with e2 _
      injection e2 with _ e3
      cases e3
    | dcK h a => cases e0; exact a.nolit.elim
    | dcT h a => cases e0
    | obj h1 h2 a => cases e0
    | _ => cases e0
  · cases e2
  · cases e2
    rcases h with ⟨ks, e1, r⟩ | ⟨ks, kvs', e0, e1, r⟩
    · exact r.nolit.elim
    · cases e0
theorem RpV.int {v : V} {i : Int} (r : RpV K Z H v (.int i)) : v = .int i := by
  rcases r with r | ⟨p, vs, xs', rfl, e2, h, z, a⟩ | ⟨p, kvs, rfl, e2, h⟩
  · cases r; rfl
  · cases e2
  · cases e2
theorem RpV.bool {v : V} {i : Bool} (r : RpV K Z H v (.bool i)) : v = .bl i := by
  rcases r with r | ⟨p, vs, xs', rfl, e2, h, z, a⟩ | ⟨p, kvs, rfl, e2, h⟩
  · cases r; rfl
  · cases e2
  · cases e2
theorem RpV.str {v : V} {i : Str} (r : RpV K Z H v (.str i)) : v = .str i := by
  rcases r with r | ⟨p, vs, xs', rfl, e2, h, z, a⟩ | ⟨p, kvs, rfl, e2, h⟩
  · cases r; rfl
  · cases e2
  · cases e2
theorem RpV.non {v : V} (r : RpV K Z H v .none) : v = .non := by
  rcases r with r | ⟨p, vs, xs', rfl, e2, h, z, a⟩ | ⟨p, kvs, rfl, e2, h⟩
  · cases r; rfl
  · cases e2
  · cases e2
theorem SlotAt.view {v : Option V} {w : SV} {F : List Addr} {d : D} (h : SlotAt K Z H v w F) (e : viewS w = some d) : ∃ u, v = some u ∧ RpV K Z H u d := by
  cases w with
  | no => cases e
  | d x => cases e; obtain ⟨_, u, h2, r⟩ := h; exact ⟨u, h2, .inl r⟩
  | l xs => cases e; obtain ⟨p, vs, h1, h2, h3, h4, h5⟩ := h; exact ⟨_, h1, .inr (.inl ⟨p, vs, xs, rfl, rfl, h3, h4, h5⟩)⟩
  | ll xss => cases e
  | dc kvs => cases e; obtain ⟨p, h1, h2, h3⟩ := h; exact ⟨_, h1, .inr (.inr ⟨p, kvs, rfl, rfl, h3⟩)⟩
  | ob c fs => cases e
  | tp ws => cases e
  | lo ws => cases e
theorem Rel.slot (r : Rel K Z Y H σ s) (i : Nat) : ∃ F, SlotAt K Z H (σ.getD i none) (s.getD i .no) F := let ⟨F, o⟩ := r.own; ⟨F i, o.at_ i⟩
theorem RelX.look {vs : List V} {rs : List R} (r : RelX K Z Y H σ s vs rs) {k : Nat} {q : R} {d : D} (hk : rs[k]? = some q) (e : viewR s q = some d) : ∃ v, vs[k]? = some v ∧ RpV K Z H v d := by
  have hlt : k < rs.length := (List.getElem?_eq_some_iff.mp hk).1
  have sl : ∃ F, SlotAt K Z H (vs[k]?) (svR q) F := by
    obtain ⟨F, h⟩ := r.rel.slot (σ.length + k)
    refine ⟨F, ?_⟩
    rw [getD_app_ge (by omega), getD_app_ge (by have := r.l1; omega), ← r.l1, Nat.add_sub_cancel_left] at h
    have e1 : (rs.map svR).getD k .no = svR q := by rw [List.getD_eq_getElem?_getD, List.getElem?_map, hk]; rfl
    have e2 : (vs.map some).getD k none = vs[k]? := by
      rw [List.getD_eq_getElem?_getD, List.getElem?_map]
      cases vs[k]? <;> rfl
    rw [e1, e2] at h
    exact h
  cases q with
  | d x =>
    cases e
    obtain ⟨F, h⟩ := sl
    exact h.view rfl
  | own w =>
    obtain ⟨F, h⟩ := sl
    exact h.view e
  | top i =>
    obtain ⟨_, h1⟩ := r.top k i hk
    obtain ⟨F, h⟩ := r.rel0.slot i
    rw [h1] at h
    exact h.view e
structure NewR (K : PySem.W.Frag) (Z H Z' H' : Hp) (u : V) (r : R) : Prop where
  hh : Same H H'
  hz : Same Z Z'
  zh : Same Z' H'
  old : ∀ a, H a ≠ none → Z' a = Z a
  val : match r with
    | .d x => Rp K Z' u x
    | .own w => ∃ F : List Addr, SlotAt K Z' H' (some u) w F ∧ F.Nodup ∧ ∀ a ∈ F, H a = none ∧ Z' a = none
    | .top _ => False
theorem NewR.d {u : V} {x : D} (e : Same Z H) (h : Rp K Z u x) : NewR K Z H Z H u (.d x) := ⟨Same.refl _, Same.refl _, e, fun _ _ => rfl, h⟩
theorem NewR.tup {p : Addr} {vs : List V} {xs : List D} (e : Same Z H) (hp : H p = none) (z : vs.length ≤ sizeLine) (h : RpAll K Z vs xs) : NewR K Z H (upd Z p (.tup vs)) (upd H p (.tup vs)) (.ref p) (.d (.tuple xs)) :=
  have zp : Z p = none := e.free hp
  ⟨same_upd hp, same_upd zp, fun b x q => by
    by_cases hb : b = p
    · subst hb; rw [upd_same] at q ⊢; exact q
    · rw [upd_ne hb] at q ⊢; exact e b x q, fun a ha => upd_ne fun z => ha (z ▸ hp), .tup upd_same z (h.same (same_upd zp))⟩
theorem NewR.lst {p : Addr} {vs : List V} {xs : List D} (e : Same Z H) (hp : H p = none) (z : vs.length ≤ sizeLine) (h : RpAll K Z vs xs) : NewR K Z H Z (upd H p (.lst vs)) (.ref p) (.own (.l xs)) :=
  ⟨same_upd hp, Same.refl _, e.trans (same_upd hp), fun _ _ => rfl, [p], ⟨p, vs, rfl, rfl, upd_same, z, h⟩, by simp, fun a ha => by
    obtain rfl : a = p := by simpa using ha
    exact ⟨hp, e.free hp⟩⟩
theorem Rel.new (r : Rel K Z Y H σ s) {u : V} {q : R} (n : NewR K Z H Z' H' u q) : RelX K Z' Y H' σ s [u] [q] := by
  cases q with
  | d x => exact .d (r.grow n.hh n.hz n.zh n.old) n.val
  | own w =>
    obtain ⟨F, h1, h2, h3⟩ := n.val
    exact .own r.len (r.push n.hh n.hz n.zh n.old h1 h2 h3)
  | top i => exact n.val.elim
end
structure Lv where
  E : WX
  io : List Nat
  σ0 : St
def Lv.keeps (L : Lv) (σ : St) : Prop := σ.length = L.σ0.length ∧ ∀ k ∈ L.io, σ.getD k none = L.σ0.getD k none
def XOk (X : Cx) (L : Lv) (Z Y : Hp) (Xf : XF) : Prop := ∀ n C Z' H' σ' s', Same Z Z' → L.keeps σ' → Rel X.K Z' Y H' σ' s' → Xf n s' → X.mg n = some (.ref C) → L.E (.ref C) none σ' H'
theorem XOk.mono {X : Cx} {L : Lv} {Z Z1 Y Y1 : Hp} {Xf : XF} (h : XOk X L Z Y Xf) (hz : Same Z Z1) (back : ∀ Z' H' σ' s', Same Z1 Z' → Rel X.K Z' Y1 H' σ' s' → Rel X.K Z' Y H' σ' s') : XOk X L Z1 Y1 Xf :=
  fun n C Z' H' σ' s' hz' k r q m => h n C Z' H' σ' s' (hz.trans hz') k (back Z' H' σ' s' hz' r) q m
theorem XOk.z {X : Cx} {L : Lv} {Z Z1 Y : Hp} {Xf : XF} (h : XOk X L Z Y Xf) (hz : Same Z Z1) : XOk X L Z1 Y Xf := h.mono hz fun _ _ _ _ _ r => r
def liftE (X : Cx) (L : Lv) (fe : FE) : TE := fun σ H Q => ∃ Z Y s Xf Qf, Rel X.K Z Y H σ s ∧ L.keeps σ ∧ XOk X L Z Y Xf ∧ fe Xf s Qf ∧ ∀ v H' Z' r s', Same Z Z' → RelX X.K Z' Y H' σ s' [v] [r] → Qf r s' → Q v H'
def liftT (X : Cx) (L : Lv) (ft : FT) : TT := fun σ H Q => ∃ Z Y s Xf Qf, Rel X.K Z Y H σ s ∧ L.keeps σ ∧ XOk X L Z Y Xf ∧ ft Xf s Qf ∧ ∀ b H' Z' s', Same Z Z' → Rel X.K Z' Y H' σ s' → Qf b s' → Q b H'
def liftA (X : Cx) (L : Lv) (n : Nat) (fa : FA) : TA := fun σ H Q => ∃ Z Y s Xf Qf, Rel X.K Z Y H σ s ∧ L.keeps σ ∧ XOk X L Z Y Xf ∧ fa Xf s Qf ∧ ∀ vs H' Z' rs s', Same Z Z' → RelX X.K Z' Y H' σ s' vs rs → rs.length = n → Qf rs s' → Q vs H'
structure EndsOk (X : Cx) (L : Lv) (Z Y : Hp) (Ef : FEnds) (D : Ends) : Prop where
  nx : ∀ σ' H' Z' s', Same Z Z' → L.keeps σ' → Rel X.K Z' Y H' σ' s' → Ef.nx s' → D.nx σ' H'
  rt : ∀ v σ' H' Z' r s', Same Z Z' → L.keeps σ' → RelX X.K Z' Y H' σ' s' [v] [r] → Ef.rt r s' → D.rt v H'
  bk : ∀ σ' H' Z' s', Same Z Z' → L.keeps σ' → Rel X.K Z' Y H' σ' s' → Ef.bk s' → D.bk σ' H'
  ct : ∀ σ' H' Z' s', Same Z Z' → L.keeps σ' → Rel X.K Z' Y H' σ' s' → Ef.ct s' → D.ct σ' H'
  xx : XOk X L Z Y Ef.xx
theorem EndsOk.z {X : Cx} {L : Lv} {Z Z1 Y : Hp} {Ef : FEnds} {D : Ends} (h : EndsOk X L Z Y Ef D) (hz : Same Z Z1) : EndsOk X L Z1 Y Ef D :=
  ⟨fun σ' H' Z' s' e => h.nx σ' H' Z' s' (hz.trans e), fun v σ' H' Z' r s' e => h.rt v σ' H' Z' r s' (hz.trans e), fun σ' H' Z' s' e => h.bk σ' H' Z' s' (hz.trans e), fun σ' H' Z' s' e => h.ct σ' H' Z' s' (hz.trans e), h.xx.z hz⟩
def liftS (X : Cx) (L : Lv) (fs : FS) : TS := fun D σ H => ∃ Z Y s Ef, Rel X.K Z Y H σ s ∧ L.keeps σ ∧ fs Ef s ∧ EndsOk X L Z Y Ef D
def PF (X : Cx) (L : Lv) (e : Expr) (fe : FE) : Prop := PE X e (liftE X L fe)
def PFT (X : Cx) (L : Lv) (e : Expr) (ft : FT) : Prop := PT X e (liftT X L ft)
def PFW (X : Cx) (L : Lv) (e : Expr) (ft : FT) : Prop := PW X e (liftT X L ft)
def PFA (X : Cx) (L : Lv) (es : List Expr) (fa : FA) : Prop := PA X es (liftA X L es.length fa)
def PFS (X : Cx) (L : Lv) (st : Stmt) (fs : FS) : Prop := PS X st (liftS X L fs)
def PFSs (X : Cx) (L : Lv) (sts : List Stmt) (fs : FS) : Prop := PSs X sts (liftS X L fs)
section
variable {X : Cx} {L : Lv} {e a b c : Expr} {es : List Expr} {fa fb fc : FE} {fr : FA} {pos p : Pos}
theorem PE_imp {t t' : TE} (h : PE X e t) (hi : ∀ σ H Q, t' σ H Q → t σ H Q) : PE X e t' := ⟨fun pins s σ H Q I q => h.run pins s σ H Q I (hi σ H Q q)⟩
theorem PT_imp {t t' : TT} (h : PT X e t) (hi : ∀ σ H Q, t' σ H Q → t σ H Q) : PT X e t' := ⟨fun pins s σ H Q I q => h.run pins s σ H Q I (hi σ H Q q)⟩
theorem PW_imp {t t' : TT} (h : PW X e t) (hi : ∀ σ H Q, t' σ H Q → t σ H Q) : PW X e t' := ⟨fun w pins s σ H Q I q => h.run w pins s σ H Q I (hi σ H Q q)⟩
theorem PA_imp {t t' : TA} (h : PA X es t) (hi : ∀ σ H Q, t' σ H Q → t σ H Q) : PA X es t' := ⟨fun ps pins s σ H Q I q => h.run ps pins s σ H Q I (hi σ H Q q)⟩
theorem PS_imp {st : Stmt} {t t' : TS} (h : PS X st t) (hi : ∀ D σ H, t' D σ H → t D σ H) : PS X st t' := ⟨fun pins s σ H D I q => h.run pins s σ H D I (hi D σ H q)⟩
theorem PSs_imp {st : List Stmt} {t t' : TS} (h : PSs X st t) (hi : ∀ D σ H, t' D σ H → t D σ H) : PSs X st t' := ⟨fun pins s σ H D I q => h.run pins s σ H D I (hi D σ H q)⟩
theorem getD_some {α : Type} {l : List (Option α)} {i : Nat} {v : α} (h : l.getD i none = some v) : l[i]? = some (some v) := by
  rw [List.getD_eq_getElem?_getD] at h
  cases e : l[i]? with
  | none => rw [e] at h; cases h
  | some o => rw [e] at h; rw [show o = some v from h]
theorem getD_lt {α : Type} {l : List (Option α)} {i : Nat} {v : α} (h : l.getD i none = some v) : i < l.length := (List.getElem?_eq_some_iff.mp (getD_some h)).1
theorem pf_var (i : Nat) {x : Str} (hN : X.N[i]? = some x := by rfl) (hv : Vis X.env.scope x := by first | exact Or.inl rfl | exact Or.inr (Or.inl rfl) | exact Or.inr (Or.inr rfl)) (hd : (x == ("__debug__" : Str)) = false := by decide)
    (hcd : (x == ("__classdict__" : Str)) = false := by decide) : PF X L (.Name x pos) (fVar i) := PE_imp (pe_var hN hv hd hcd) fun σ H Q ⟨Z, Y, s, Xf, Qf, r, k, xo, h, q⟩ => by
  obtain ⟨F, sl⟩ := r.slot i
  unfold fVar at h
  generalize hs : s.getD i .no = w at h sl
  have tp : ∀ p : V, σ.getD i none = some p → Qf (.top i) s → ∃ v, σ[i]? = some (some v) ∧ Q v H := fun p e h => ⟨p, getD_some e, q p H Z _ s (Same.refl _) (.tp r (getD_lt e) e) h⟩
  cases w with
  | no => exact h.elim
  | d x =>
    obtain ⟨_, u, h2, rp⟩ := sl
    exact ⟨u, getD_some h2, q u H Z _ s (Same.refl _) (.d r rp) h⟩
  | l xs => obtain ⟨p, vs, h1, _⟩ := sl; exact tp _ h1 h
  | ll xs => obtain ⟨p, vs, h1, _⟩ := sl; exact tp _ h1 h
  | dc xs => obtain ⟨p, h1, _⟩ := sl; exact tp _ h1 h
  | ob c fs => obtain ⟨p, dx, vs, G, h1, _⟩ := sl; exact tp _ h1 h
  | tp ws => obtain ⟨p, vs, h1, _⟩ := sl; exact tp _ h1 h
  | lo ws => obtain ⟨p, vs, G, h1, _⟩ := sl; exact tp _ h1 h
theorem pf_C {v : V} {x : D} (h : PE X e (tC v)) (r : ∀ Z, Rp X.K Z v x) : PF X L e (fC x) := PE_imp h fun σ H Q ⟨Z, Y, s, Xf, Qf, rl, k, xo, h, q⟩ => q v H Z _ s (Same.refl _) (.d rl (r Z)) h
theorem pf_int {i : Int} {j pos} : PF X L (.Constant (.int i) j pos) (fC (.int i)) := pf_C pe_int fun _ => .int i
theorem pf_bl {i : Bool} {j pos} : PF X L (.Constant (.bool i) j pos) (fC (.bool i)) := pf_C pe_bl fun _ => .bl i
theorem pf_non {j pos} : PF X L (.Constant .none j pos) (fC .none) := pf_C pe_non fun _ => .non
theorem pf_nil : PFA X L [] fNil := PA_imp pa_nil fun σ H Q ⟨Z, Y, s, Xf, Qf, r, k, xo, h, q⟩ => q [] H Z [] s (Same.refl _) (.nil r) rfl h
theorem pf_cons (ha : PF X L e fa) (hr : PFA X L es fr) (hs : starEach (e :: es) X.env = (false, eval e X.env) :: starEach es X.env := by rfl) : PFA X L (e :: es) (fCons fa fr) :=
  PA_imp (pa_cons ha hr hs) fun σ H Q ⟨Z, Y, s, Xf, Qf, r, k, xo, h, q⟩ => by
  refine ⟨Z, Y, s, Xf, _, r, k, xo, h, fun v H1 Z1 r1 s1 hz rx h1 => ?_⟩
  obtain ⟨Y', hy, rl, bk, fw⟩ := rx.frame
  refine ⟨Z1, Y', s1, Xf, _, rl, k, (xo.z hz).mono (Same.refl _) bk, h1, fun vs H2 Z2 rs s2 hz2 rx2 hn h2 => ?_⟩
  exact q (v :: vs) H2 Z2 (r1 :: rs) s2 (hz.trans hz2) (fw Z2 H2 s2 vs rs hz2 rx2) (by rw [List.length_cons, hn]; rfl) h2
theorem frz_ok {K : PySem.W.Frag} {Z Y H : Hp} {σ : St} {s : S} {us vs : List V} {ds : List D} {r : R} {rs : List R} {v : V} {k : D → S → Prop} (rx : RelX K Z Y H σ s (us ++ v :: vs) (ds.map R.d ++ r :: rs)) (hl : us.length = ds.length) (h : frz r s k) :
    ∃ Z' d s', Same Z Z' ∧ RelX K Z' Y H σ s' (us ++ v :: vs) (ds.map R.d ++ .d d :: rs) ∧ k d s' := by
  have hlu : (us.map some).length = (ds.map R.d).length := by rw [List.length_map, List.length_map, hl]
  have ix : ∀ (q : R), (ds.map R.d ++ q :: rs)[us.length]? = some q := fun q => by
    rw [List.getElem?_append_right (by rw [List.length_map, hl]; exact Nat.le_refl _), List.length_map, hl, Nat.sub_self]; rfl
  have iv : (us ++ v :: vs)[us.length]? = some v := by
    rw [List.getElem?_append_right (Nat.le_refl _), Nat.sub_self]; rfl
  have topsD : ∀ d σ', Tops σ (us ++ v :: vs) (ds.map R.d ++ r :: rs) → σ' = σ → Tops σ' (us ++ v :: vs) (ds.map R.d ++ .d d :: rs) := fun d σ' t e k i hk => by
    subst e
    by_cases hk0 : k = us.length
    · subst hk0
      rw [ix] at hk; cases hk
    · have : (ds.map R.d ++ r :: rs)[k]? = (ds.map R.d ++ .d d :: rs)[k]? := by
        by_cases hlt : k < us.length
        · rw [List.getElem?_append_left (by rw [List.length_map]; omega), List.getElem?_append_left (by rw [List.length_map]; omega)]
        · rw [List.getElem?_append_right (by rw [List.length_map]; omega), List.getElem?_append_right (by rw [List.length_map]; omega), List.length_map]
          have : k - ds.length = (k - ds.length - 1) + 1 := by omega
          rw [this]; rfl
      exact t k i (this.trans hk)
  cases r with
  | d x => exact ⟨Z, x, s, Same.refl _, rx, h⟩
  | own w =>
    unfold frz at h
    dsimp only at h
    cases e : asD w with
    | none => rw [e] at h; exact h.elim
    | some x =>
      rw [e] at h
      have sl : (s ++ (ds.map R.d ++ .own w :: rs).map svR).getD (s.length + us.length) .no = w := by
        rw [getD_app_ge (by omega), Nat.add_sub_cancel_left, List.getD_eq_getElem?_getD, List.getElem?_map, ix]; rfl
      obtain ⟨Z', hz, rl⟩ := rx.rel.freeze (i := s.length + us.length) (x := x) (by rw [sl]; exact e)
      refine ⟨Z', x, s, hz, ⟨?_, rx.l1, ?_, topsD x σ rx.top rfl⟩, h⟩
      · have : (s ++ (ds.map R.d ++ .own w :: rs).map svR).set (s.length + us.length) (.d x) = s ++ (ds.map R.d ++ .d x :: rs).map svR := by
          rw [List.set_append_right _ _ (by omega), Nat.add_sub_cancel_left, List.map_append, List.map_append, List.set_append_right _ _ (by simp [hl]), List.length_map, List.length_map, hl, Nat.sub_self]
          rfl
        rw [this] at rl
        exact rl
      · have := rx.l2
        simp only [List.length_append, List.length_cons] at this ⊢
        exact this
  | top i =>
    unfold frz at h
    dsimp only at h
    cases e : asD (s.getD i .no) with
    | none => rw [e] at h; exact h.elim
    | some x =>
      rw [e] at h
      obtain ⟨hi, hv⟩ := rx.top us.length i (ix _)
      rw [iv] at hv
      have his : i < s.length := by rw [← rx.l1]; exact hi
      obtain ⟨Z', hz, rl⟩ := rx.rel.freeze (i := i) (x := x) (by rw [getD_app_lt his]; exact e)
      rw [List.set_append_left _ _ his] at rl
      refine ⟨Z', x, s.set i (.d x), hz, ⟨?_, by rw [List.length_set]; exact rx.l1, ?_, topsD x σ rx.top rfl⟩, h⟩
      · have rpx : Rp K Z' v x := by
          obtain ⟨F, q⟩ := rl.slot i
          rw [getD_app_lt (by omega), getD_app_lt (by rw [List.length_set]; exact his), getD_set_self his, hv] at q
          obtain ⟨_, u, e1, rp⟩ := q
          cases e1
          exact rp
        have hlen : ((s.set i (.d x)) ++ (ds.map R.d ++ .top i :: rs).map svR).length = ((s.set i (.d x)) ++ (ds.map R.d ++ .d x :: rs).map svR).length := by simp
        refine rl.re (fun k => if k = s.length + us.length then none else some k) (by have := rl.len; rw [hlen] at this; exact this) (fun k => ?_) (fun k k' j h h' => ?_)
        · by_cases hk : k = s.length + us.length
          · simp only [if_pos hk]
            refine .inr ⟨x, v, ?_, ?_, rpx⟩
            · rw [hk, getD_app_ge (by rw [List.length_set]; omega), List.length_set, Nat.add_sub_cancel_left, List.getD_eq_getElem?_getD, List.getElem?_map, ix]; rfl
            · rw [hk, getD_app_ge (by have := rx.l1; omega), rx.l1, Nat.add_sub_cancel_left, List.getD_eq_getElem?_getD, List.getElem?_map, iv]; rfl
          · simp only [if_neg hk]
            refine ⟨?_, trivial⟩
            by_cases hlt : k < s.length
            · rw [getD_app_lt (by rw [List.length_set]; exact hlt), getD_app_lt (by rw [List.length_set]; exact hlt)]
            · rw [getD_app_ge (by rw [List.length_set]; omega), getD_app_ge (by rw [List.length_set]; omega), List.length_set, List.map_append, List.map_append]
              by_cases hlt2 : k - s.length < us.length
              · rw [getD_app_lt (by simp; omega), getD_app_lt (by simp; omega)]
              · rw [getD_app_ge (by simp; omega), getD_app_ge (by simp; omega)]
                have : k - s.length - (List.map svR (ds.map R.d)).length = (k - s.length - (List.map svR (ds.map R.d)).length - 1) + 1 := by simp; omega
                rw [this]
                rfl
        · by_cases e1 : k = s.length + us.length
          · rw [if_pos e1] at h; cases h
          · by_cases e2 : k' = s.length + us.length
            · rw [if_pos e2] at h'; cases h'
            · rw [if_neg e1] at h; rw [if_neg e2] at h'; cases h; cases h'; rfl
      · have := rx.l2
        simp only [List.length_append, List.length_cons] at this ⊢
        exact this
theorem frzAll_ok {K : PySem.W.Frag} {Y H : Hp} {σ : St} : ∀ {rs : List R} {vs : List V} {us : List V} {ds : List D} {Z : Hp} {s : S} {k : List D → S → Prop}, RelX K Z Y H σ s (us ++ vs) (ds.map R.d ++ rs) → us.length = ds.length → frzAll rs s k →
    ∃ Z' es s', Same Z Z' ∧ RelX K Z' Y H σ s' (us ++ vs) ((ds ++ es).map R.d) ∧ k es s'
  | [], vs, us, ds, Z, s, k, rx, hl, h => by
    refine ⟨Z, [], s, Same.refl _, ?_, h⟩
    simpa using rx
  | r :: rs, [], us, ds, Z, s, k, rx, hl, h => by
    have := rx.l2
    simp at this
    omega
  | r :: rs, v :: vs, us, ds, Z, s, k, rx, hl, h => by
    obtain ⟨Z1, d, s1, hz, rx1, h1⟩ := frz_ok rx hl h
    have e1 : us ++ v :: vs = (us ++ [v]) ++ vs := by simp
    have e2 : ds.map R.d ++ .d d :: rs = (ds ++ [d]).map R.d ++ rs := by simp
    rw [e1, e2] at rx1
    obtain ⟨Z2, es, s2, hz2, rx2, h2⟩ := frzAll_ok rx1 (by simp [hl]) h1
    refine ⟨Z2, d :: es, s2, hz.trans hz2, ?_, h2⟩
    rw [e1]
    simpa using rx2
theorem RelX.rps {K : PySem.W.Frag} {Z Y H : Hp} {σ : St} {s : S} : ∀ {vs : List V} {ds : List D}, RelX K Z Y H σ s vs (ds.map R.d) → RpAll K Z vs ds := by
  intro vs ds r
  have hl := r.l2
  rw [List.length_map] at hl
  have at_ : ∀ i v d, vs[i]? = some v → ds[i]? = some d → Rp K Z v d := fun i v d h1 h2 => by
    obtain ⟨F, q⟩ := r.rel.slot (σ.length + i)
    rw [getD_app_ge (by omega), getD_app_ge (by have := r.l1; omega), ← r.l1, Nat.add_sub_cancel_left, List.getD_eq_getElem?_getD, List.getD_eq_getElem?_getD, List.getElem?_map, List.getElem?_map, List.getElem?_map, h1, h2] at q
    obtain ⟨_, u, e1, rp⟩ := q
    cases e1
    exact rp
  clear r
  induction vs generalizing ds with
  | nil =>
    cases ds with
    | nil => exact .nil
    | cons d ds => simp at hl
  | cons v vs ih =>
    cases ds with
    | nil => simp at hl
    | cons d ds => exact .cons (at_ 0 v d rfl rfl) (ih (by simpa using hl) fun i v' d' h1 h2 => at_ (i + 1) v' d' h1 h2)
theorem pf_tup {x1} (ha : PFA X L es fr) (hn : es.length ≤ sizeLine := by show _ ≤ 16777216; decide) : PF X L (.Tuple es x1 pos) (fTup fr) := PE_imp (pe_tup ha) fun σ H Q ⟨Z, Y, s, Xf, Qf, r, k, xo, h, q⟩ => by
  refine ⟨Z, Y, s, Xf, _, r, k, xo, h, fun vs H1 Z1 rs s1 hz rx hl h1 => ?_⟩
  refine ⟨by rw [rx.l2, hl]; exact hn, fun p hp => ?_⟩
  obtain ⟨Z2, ds, s2, hz2, rx2, h2⟩ := frzAll_ok (us := []) (ds := []) rx rfl h1
  have n : NewR X.K Z2 H1 (upd Z2 p (.tup vs)) (upd H1 p (.tup vs)) (.ref p) (.d (.tuple ds)) := .tup rx2.rel0.zh hp (by rw [rx.l2, hl]; exact hn) rx2.rps
  exact q (.ref p) _ _ _ s2 ((hz.trans hz2).trans n.hz) (rx2.rel0.new n) h2
theorem pf_lst (ha : PFA X L es fr) (hn : es.length ≤ sizeLine := by show _ ≤ 16777216; decide) : PF X L (.List es pos) (fLst fr) := PE_imp (pe_lst ha) fun σ H Q ⟨Z, Y, s, Xf, Qf, r, k, xo, h, q⟩ => by
  refine ⟨Z, Y, s, Xf, _, r, k, xo, h, fun vs H1 Z1 rs s1 hz rx hl h1 => ?_⟩
  refine ⟨by rw [rx.l2, hl]; exact hn, fun p hp => ?_⟩
  obtain ⟨Z2, ds, s2, hz2, rx2, h2⟩ := frzAll_ok (us := []) (ds := []) rx rfl h1
  have n : NewR X.K Z2 H1 Z2 (upd H1 p (.lst vs)) (.ref p) (.own (.l ds)) := .lst rx2.rel0.zh hp (by rw [rx.l2, hl]; exact hn) rx2.rps
  exact q (.ref p) _ _ _ s2 ((hz.trans hz2).trans n.hz) (rx2.rel0.new n) h2
def rF2 (K : PySem.W.Frag) (g : V2) : R2 := fun x y H Q => ∃ Z d e Qf, Same Z H ∧ RpV K Z H x d ∧ RpV K Z H y e ∧ g d e Qf ∧ ∀ u H' Z' r, NewR K Z H Z' H' u r → Qf r → Q u H'
def rF1 (K : PySem.W.Frag) (g : V1) : V → Hp → VK → Prop := fun x H Q => ∃ Z d Qf, Same Z H ∧ RpV K Z H x d ∧ g d Qf ∧ ∀ u H' Z' r, NewR K Z H Z' H' u r → Qf r → Q u H'
theorem look_ok {s : S} {r : R} {k : D → Prop} (h : look s r k) : ∃ d, viewR s r = some d ∧ k d := by
  unfold look at h
  cases e : viewR s r with
  | none => rw [e] at h; exact h.elim
  | some d => rw [e] at h; exact ⟨d, rfl, h⟩
theorem fOp_ok {g : V2} {σ : St} {H : Hp} {Q : VK} (h : liftE X L (fOp g fa fb) σ H Q) : tOp (rF2 X.K g) (liftE X L fa) (liftE X L fb) σ H Q := by
  obtain ⟨Z, Y, s, Xf, Qf, r, k, xo, h, q⟩ := h
  refine ⟨Z, Y, s, Xf, _, r, k, xo, h, fun v H1 Z1 r1 s1 hz rx h1 => ?_⟩
  obtain ⟨Y', hy, rl, bk, fw⟩ := rx.frame
  refine ⟨Z1, Y', s1, Xf, _, rl, k, (xo.z hz).mono (Same.refl _) bk, h1, fun w H2 Z2 r2 s2 hz2 rx2 h2 => ?_⟩
  have rx3 := fw Z2 H2 s2 [w] [r2] hz2 rx2
  obtain ⟨d, e1, h3⟩ := look_ok h2
  obtain ⟨e, e2, h4⟩ := look_ok h3
  obtain ⟨v', ev, rv⟩ := rx3.look (k := 0) rfl e1
  obtain ⟨w', ew, rw'⟩ := rx3.look (k := 1) rfl e2
  cases ev; cases ew
  exact ⟨Z2, d, e, _, rx3.rel0.zh, rv, rw', h4, fun u H' Z' r n hq => q u H' Z' r s2 ((hz.trans hz2).trans n.hz) (rx3.rel0.new n) hq⟩
theorem pf_op {op : Operator} {g : V2} (ho : OpR X (binaryOp op) (rF2 X.K g)) (ha : PF X L a fa) (hb : PF X L b fb) : PF X L (.BinOp a op b pos) (fOp g fa fb) := PE_imp (pe_op ho ha hb) fun _ _ _ => fOp_ok
theorem pf_cmp {op : CmpOp} {g : V2} (ho : OpR X (compareOp op) (rF2 X.K g)) (ha : PF X L a fa) (hb : PF X L b fb) (hm : behindInMarks op b = false) : PF X L (.Compare a [op] [b] pos) (fOp g fa fb) := PE_imp (pe_cmpR ho ha hb hm) fun _ _ _ => fOp_ok
theorem fUn_ok {g : V1} {σ : St} {H : Hp} {Q : VK} (h : liftE X L (fUn g fa) σ H Q) : tUn (rF1 X.K g) (liftE X L fa) σ H Q := by
  obtain ⟨Z, Y, s, Xf, Qf, r, k, xo, h, q⟩ := h
  refine ⟨Z, Y, s, Xf, _, r, k, xo, h, fun v H1 Z1 r1 s1 hz rx h1 => ?_⟩
  obtain ⟨d, e1, h3⟩ := look_ok h1
  obtain ⟨v', ev, rv⟩ := rx.look (k := 0) rfl e1
  cases ev
  exact ⟨Z1, d, _, rx.rel0.zh, rv, h3, fun u H' Z' r n hq => q u H' Z' r s1 (hz.trans n.hz) (rx.rel0.new n) hq⟩
theorem pf_un {op : UnaryOp} {g : V1} (ho : UnR X (unaryOp op) (rF1 X.K g)) (ha : PF X L a fa) : PF X L (.UnaryOp op a pos) (fUn g fa) := PE_imp (pe_un ho ha) fun _ _ _ => fUn_ok
theorem pf_ix {g : V2} (hr : IxR X (rF2 X.K g)) (ha : PF X L a fa) (hb : PF X L b fb) (hs : PlainIx b := by exact fun _ _ => rfl) : PF X L (.Subscript a b pos) (fOp g fa fb) := PE_imp (pe_ix hr ha hb hs) fun _ _ _ => fOp_ok
end
end Hs
namespace Hs
open PySem PySem.Spec PyProof.Rows L2
section
variable {X : Cx} {L : Lv} {e a b c : Expr} {es : List Expr} {fa fb fc : FE} {ft fu : FT} {fr : FA} {pos p : Pos}
theorem isB_ok {r : R} {k : Bool → Prop} (h : isB r k) : ∃ c, r = .d (.bool c) ∧ k c := by
  cases r with
  | d x =>
    cases x with
    | bool c => exact ⟨c, rfl, h⟩
    | _ => exact h.elim
  | _ => exact h.elim
theorem RelX.vd {K : PySem.W.Frag} {Z Y H : Hp} {σ : St} {s : S} {v : V} {x : D} (r : RelX K Z Y H σ s [v] [.d x]) : Rp K Z v x := by
  have q := RelX.rps (ds := [x]) r
  cases q with
  | cons h _ => exact h
theorem RelX.vb {K : PySem.W.Frag} {Z Y H : Hp} {σ : St} {s : S} {v : V} {c : Bool} (r : RelX K Z Y H σ s [v] [.d (.bool c)]) : v = .bl c := by
  have q := r.vd
  cases q
  rfl
theorem RelX.vi {K : PySem.W.Frag} {Z Y H : Hp} {σ : St} {s : S} {v : V} {c : Int} (r : RelX K Z Y H σ s [v] [.d (.int c)]) : v = .int c := by
  have q := r.vd
  cases q
  rfl
theorem pf_one {op} (h : PF X L a fa) : PF X L (.BoolOp op [a] pos) fa := pe_one h
theorem pf_and {rest : List Expr} (ha : PF X L a fa) (hb : PF X L (.BoolOp .And (b :: rest) pos) fb) : PF X L (.BoolOp .And (a :: b :: rest) pos) (fAndV fa fb) := PE_imp (pe_and ha hb) fun σ H Q ⟨Z, Y, s, Xf, Qf, r, k, xo, h, q⟩ => by
  refine ⟨Z, Y, s, Xf, _, r, k, xo, h, fun v H1 Z1 r1 s1 hz rx h1 => ?_⟩
  obtain ⟨c, rfl, h2⟩ := isB_ok h1
  refine ⟨c, rx.vb, ?_⟩
  cases c with
  | true => exact ⟨Z1, Y, s1, Xf, _, rx.rel0, k, xo.z hz, h2, fun w H2 Z2 r2 s2 hz2 rx2 hq => q w H2 Z2 r2 s2 (hz.trans hz2) rx2 hq⟩
  | false => exact q _ H1 Z1 _ s1 hz (.d rx.rel0 (.bl false)) h2
theorem pf_not (ha : PF X L a fa) : PF X L (.UnaryOp .Not a pos) (fNotV fa) := PE_imp (pe_not ha) fun σ H Q ⟨Z, Y, s, Xf, Qf, r, k, xo, h, q⟩ => by
  refine ⟨Z, Y, s, Xf, _, r, k, xo, h, fun v H1 Z1 r1 s1 hz rx h1 => ?_⟩
  obtain ⟨c, rfl, h2⟩ := isB_ok h1
  exact ⟨c, rx.vb, q _ H1 Z1 _ s1 hz (.d rx.rel0 (.bl _)) h2⟩
theorem pft_B (h : PF X L e fa) (he : ∀ whole, isTrue e X.env whole = (do let v ← whole; standAt e.pos; holding [v] (truthy v)) := by intro _; rfl) : PFT X L e (fB fa) := PT_imp (pt_val h he) fun σ H Q ⟨Z, Y, s, Xf, Qf, r, k, xo, h, q⟩ => by
  refine ⟨Z, Y, s, Xf, _, r, k, xo, h, fun v H1 Z1 r1 s1 hz rx h1 => ?_⟩
  obtain ⟨c, rfl, h2⟩ := isB_ok h1
  exact ⟨c, rx.vb, q _ H1 Z1 s1 hz rx.rel0 h2⟩
theorem pft_cmp {op : CmpOp} {g : V2} (ho : OpR X (compareOp op) (rF2 X.K g)) (ha : PF X L a fa) (hb : PF X L b fb) (hm : behindInMarks op b = false) : PFT X L (.Compare a [op] [b] pos) (fB (fOp g fa fb)) := PT_imp (pt_cmpR ho ha hb hm) fun σ H Q ⟨Z, Y, s, Xf, Qf, r, k, xo, h, q⟩ => by
  refine fOp_ok ⟨Z, Y, s, Xf, _, r, k, xo, h, fun v H1 Z1 r1 s1 hz rx h1 => ?_⟩
  obtain ⟨c, rfl, h2⟩ := isB_ok h1
  exact ⟨c, rx.vb, q _ H1 Z1 s1 hz rx.rel0 h2⟩
theorem pfw_and1 (ha : PFT X L a ft) : PFW X L (.BoolOp .And [a] pos) ft := pw_and1 ha
theorem pfw_or1 (ha : PFT X L a ft) : PFW X L (.BoolOp .Or [a] pos) ft := pw_or1 ha
theorem pfw_and {rest : List Expr} (ha : PFT X L a ft) (hb : PFW X L (.BoolOp .And (b :: rest) pos) fu) : PFW X L (.BoolOp .And (a :: b :: rest) pos) (fAnd ft fu) := PW_imp (pw_and ha hb) fun σ H Q ⟨Z, Y, s, Xf, Qf, r, k, xo, h, q⟩ => by
  refine ⟨Z, Y, s, Xf, _, r, k, xo, h, fun d H1 Z1 s1 hz rl h1 => ?_⟩
  cases d with
  | true => exact ⟨Z1, Y, s1, Xf, _, rl, k, xo.z hz, h1, fun w H2 Z2 s2 hz2 rx2 hq => q w H2 Z2 s2 (hz.trans hz2) rx2 hq⟩
  | false => exact q _ H1 Z1 s1 hz rl h1
theorem pfw_or {rest : List Expr} (ha : PFT X L a ft) (hb : PFW X L (.BoolOp .Or (b :: rest) pos) fu) : PFW X L (.BoolOp .Or (a :: b :: rest) pos) (fOr ft fu) := PW_imp (pw_or ha hb) fun σ H Q ⟨Z, Y, s, Xf, Qf, r, k, xo, h, q⟩ => by
  refine ⟨Z, Y, s, Xf, _, r, k, xo, h, fun d H1 Z1 s1 hz rl h1 => ?_⟩
  cases d with
  | false => exact ⟨Z1, Y, s1, Xf, _, rl, k, xo.z hz, h1, fun w H2 Z2 s2 hz2 rx2 hq => q w H2 Z2 s2 (hz.trans hz2) rx2 hq⟩
  | true => exact q _ H1 Z1 s1 hz rl h1
theorem pft_W (h : PFW X L e ft) : PFT X L e ft := PW.pt h
theorem pft_not (ha : PFT X L a ft) : PFT X L (.UnaryOp .Not a pos) (fNot ft) := PT_imp (pt_not ha) fun σ H Q ⟨Z, Y, s, Xf, Qf, r, k, xo, h, q⟩ =>
  ⟨Z, Y, s, Xf, _, r, k, xo, h, fun d H1 Z1 s1 hz rl h1 => q _ H1 Z1 s1 hz rl h1⟩
theorem RelX.app2 {K : PySem.W.Frag} {Z Y H : Hp} {σ : St} {s : S} {v w : V} {r q : R} (x : RelX K Z Y H σ s [v, w] [r, q]) : RelX K Z Y H σ s [w] [q] := by
  refine ⟨?_, x.l1, rfl, fun k i h => ?_⟩
  · refine x.rel.re (fun k => if k < σ.length then some k else if k = σ.length then some (k + 1) else none) (by have := x.l1; simp [this]) (fun k => ?_) (fun k k' j h h' => ?_)
    · have hl := x.l1
      by_cases h1 : k < σ.length
      · simp only [if_pos h1]
        exact ⟨by rw [getD_app_lt (by omega), getD_app_lt (by omega)], by rw [getD_app_lt h1, getD_app_lt h1]⟩
      · simp only [if_neg h1]
        by_cases h2 : k = σ.length
        · simp only [if_pos h2]
          subst h2
          refine ⟨?_, ?_⟩
          · rw [getD_app_ge (by omega), getD_app_ge (by omega)]
            have e1 : σ.length - s.length = 0 := by omega
            have e2 : σ.length + 1 - s.length = 1 := by omega
            rw [e1, e2]; rfl
          · rw [getD_app_ge (Nat.le_refl _), getD_app_ge (Nat.le_succ _)]
            have e1 : σ.length - σ.length = 0 := by omega
            have e2 : σ.length + 1 - σ.length = 1 := by omega
            rw [e1, e2]; rfl
        · simp only [if_neg h2]
          exact .inl (getD_out (by simp; omega))
    · by_cases a1 : k < σ.length
      · rw [if_pos a1] at h
        by_cases b1 : k' < σ.length
        · rw [if_pos b1] at h'; cases h; cases h'; rfl
        · rw [if_neg b1] at h'
          by_cases b2 : k' = σ.length
          · rw [if_pos b2] at h'; cases h; cases h'; omega
          · rw [if_neg b2] at h'; cases h'
      · rw [if_neg a1] at h
        by_cases a2 : k = σ.length
        · rw [if_pos a2] at h
          by_cases b1 : k' < σ.length
          · rw [if_pos b1] at h'; cases h; cases h'; omega
          · rw [if_neg b1] at h'
            by_cases b2 : k' = σ.length
            · omega
            · rw [if_neg b2] at h'; cases h'
        · rw [if_neg a2] at h; cases h
  · cases k with
    | zero => exact x.top 1 i h
    | succ k => simp at h
theorem fChain_ok {g g' : V2} {σ : St} {H : Hp} {Q : VK} (h : liftE X L (fChain g g' fa fb fc) σ H Q) : tChain (rF2 X.K g) (rF2 X.K g') (liftE X L fa) (liftE X L fb) (liftE X L fc) σ H Q := by
  obtain ⟨Z, Y, s, Xf, Qf, r, k, xo, h, q⟩ := h
  refine ⟨Z, Y, s, Xf, _, r, k, xo, h, fun v H1 Z1 r1 s1 hz rx h1 => ?_⟩
  obtain ⟨Y', hy, rl, bk, fw⟩ := rx.frame
  refine ⟨Z1, Y', s1, Xf, _, rl, k, (xo.z hz).mono (Same.refl _) bk, h1, fun w H2 Z2 r2 s2 hz2 rx2 h2 => ?_⟩
  have rx3 := fw Z2 H2 s2 [w] [r2] hz2 rx2
  obtain ⟨d, e1, h3⟩ := look_ok h2
  obtain ⟨e, e2, h4⟩ := look_ok h3
  obtain ⟨v', ev, rv⟩ := rx3.look (k := 0) rfl e1
  obtain ⟨w', ew, rw'⟩ := rx3.look (k := 1) rfl e2
  cases ev; cases ew
  refine ⟨Z2, d, e, _, rx3.rel0.zh, rv, rw', h4, fun u H3 Z3 r3 n hq => ?_⟩
  obtain ⟨c, rfl, h5⟩ := isB_ok hq
  have uv : u = .bl c := by have := n.val; cases this; rfl
  refine ⟨c, uv, ?_⟩
  have rx4 : RelX X.K Z3 Y H3 σ s2 [w] [r2] := by
    have y := rx3.app2
    exact ⟨y.rel.grow n.hh n.hz n.zh n.old, y.l1, y.l2, y.top⟩
  cases c with
  | false => exact q _ H3 Z3 _ s2 ((hz.trans hz2).trans n.hz) (.d rx4.rel0 (.bl false)) h5
  | true =>
    obtain ⟨Y2, hy2, rl2, bk2, fw2⟩ := rx4.frame
    refine ⟨Z3, Y2, s2, Xf, _, rl2, k, (xo.z ((hz.trans hz2).trans n.hz)).mono (Same.refl _) bk2, h5, fun x H4 Z4 r4 s4 hz4 rx5 h6 => ?_⟩
    have rx6 := fw2 Z4 H4 s4 [x] [r4] hz4 rx5
    obtain ⟨d', e3, h7⟩ := look_ok h6
    obtain ⟨e', e4, h8⟩ := look_ok h7
    obtain ⟨v3, ev3, rv3⟩ := rx6.look (k := 0) rfl e3
    obtain ⟨w3, ew3, rw3⟩ := rx6.look (k := 1) rfl e4
    cases ev3; cases ew3
    exact ⟨Z4, d', e', _, rx6.rel0.zh, rv3, rw3, h8, fun u5 H5 Z5 r5 n5 hq5 => q u5 H5 Z5 r5 s4 ((((hz.trans hz2).trans n.hz).trans hz4).trans n5.hz) (rx6.rel0.new n5) hq5⟩
theorem pf_chain {op op' : CmpOp} {g g' : V2} (ho : OpR X (compareOp op) (rF2 X.K g)) (ho' : OpR X (compareOp op') (rF2 X.K g')) (ha : PF X L a fa) (hb : PF X L b fb) (hc : PF X L c fc)
    (hm : lastMarks [op, op'] [b, c] = false := by with_unfolding_all rfl) : PF X L (.Compare a [op, op'] [b, c] pos) (fChain g g' fa fb fc) := PE_imp (pe_chain ho ho' ha hb hc hm) fun _ _ _ => fChain_ok
variable {st : Stmt} {rest : List Stmt} {f1 f2 : FS}
theorem pfs_nil : PFSs X L [] fNext := PSs_imp pss_nil fun D σ H ⟨Z, Y, s, Ef, r, k, h, eo⟩ => eo.nx σ H Z s (Same.refl _) k r h
theorem pfs_cons (h1 : PFS X L st f1) (h2 : PFSs X L rest f2) : PFSs X L (st :: rest) (fSeq f1 f2) := PSs_imp (pss_cons h1 h2) fun D σ H ⟨Z, Y, s, Ef, r, k, h, eo⟩ =>
  ⟨Z, Y, s, _, r, k, h, ⟨fun σ' H' Z' s' hz k' r' h' => ⟨Z', Y, s', Ef, r', k', h', eo.z hz⟩, eo.rt, eo.bk, eo.ct, eo.xx⟩⟩
theorem pfs_one (h1 : PFS X L st f1) : PFSs X L [st] f1 := pss_one h1
theorem pfs_break : PFS X L (.Break pos) fBreak := PS_imp ps_break fun D σ H ⟨Z, Y, s, Ef, r, k, h, eo⟩ => eo.bk σ H Z s (Same.refl _) k r h
theorem pfs_expr (he : PF X L e fa) (hs : swapsWith e none pos.line X.env = pure false := by rfl) : PFS X L (.Expr e pos) (fDrop fa) := PS_imp (ps_expr he hs) fun D σ H ⟨Z, Y, s, Ef, r, k, h, eo⟩ =>
  ⟨Z, Y, s, Ef.xx, _, r, k, eo.xx, h, fun v H1 Z1 r1 s1 hz rx h1 => eo.nx σ H1 Z1 s1 hz k rx.rel0 h1⟩
theorem pfs_ret (he : PF X L e fa) : PFS X L (.Return (some e) pos) (fRet fa) := PS_imp (ps_ret he) fun D σ H ⟨Z, Y, s, Ef, r, k, h, eo⟩ =>
  ⟨Z, Y, s, Ef.xx, _, r, k, eo.xx, h, fun v H1 Z1 r1 s1 hz rx h1 => eo.rt v σ H1 Z1 r1 s1 hz k rx h1⟩
theorem pfs_retN : PFS X L (.Return none pos) fRetN := PS_imp ps_retN fun D σ H ⟨Z, Y, s, Ef, r, k, h, eo⟩ => eo.rt .non σ H Z _ s (Same.refl _) k (.d r .non) h
theorem pfs_if {sa sb : List Stmt} (hc : PFT X L c ft) (ha : PFSs X L sa f1) (hb : PFSs X L sb f2) : PFS X L (.If c sa sb pos) (fIfS ft f1 f2) := PS_imp (ps_if hc ha hb) fun D σ H ⟨Z, Y, s, Ef, r, k, h, eo⟩ => by
  refine ⟨Z, Y, s, Ef.xx, _, r, k, eo.xx, h, fun d H1 Z1 s1 hz rl h1 => ?_⟩
  cases d with
  | true => exact ⟨Z1, Y, s1, Ef, rl, k, h1, eo.z hz⟩
  | false => exact ⟨Z1, Y, s1, Ef, rl, k, h1, eo.z hz⟩
theorem Lv.keeps_set {σ : St} {i : Nat} {v : Option V} (k : L.keeps σ) (hi : i ∉ L.io) : L.keeps (σ.set i v) := ⟨by rw [List.length_set]; exact k.1, fun j hj => by
  rw [getD_set_ne (fun z : i = j => hi (by rw [z]; exact hj))]
  exact k.2 j hj⟩
/-- the last slot put into another one -/
theorem Rel.put {K : PySem.W.Frag} {Z Y H : Hp} {σ : St} {s : S} {v : V} {w : SV} (r : Rel K Z Y H (σ ++ [some v]) (s ++ [w])) (hl : σ.length = s.length) (i : Nat) : Rel K Z Y H (σ.set i (some v)) (s.set i w) := by
  by_cases hi : i < σ.length
  · refine r.re (fun k => if k < σ.length then (if k = i then some σ.length else some k) else none) (by simp [hl]) (fun k => ?_) (fun k k' j h h' => ?_)
    · by_cases h1 : k < σ.length
      · simp only [if_pos h1]
        by_cases h2 : k = i
        · subst h2
          simp only [if_pos rfl]
          refine ⟨?_, ?_⟩
          · rw [getD_set_self (by omega), getD_app_ge (by omega), hl, Nat.sub_self]; rfl
          · rw [getD_set_self hi, getD_app_ge (Nat.le_refl _), Nat.sub_self]; rfl
        · simp only [if_neg h2]
          exact ⟨by rw [getD_set_ne (Ne.symm h2), getD_app_lt (by omega)], by rw [getD_set_ne (Ne.symm h2), getD_app_lt h1]⟩
      · simp only [if_neg h1]
        exact .inl (getD_out (by simp; omega))
    · by_cases a1 : k < σ.length
      · rw [if_pos a1] at h
        by_cases b1 : k' < σ.length
        · rw [if_pos b1] at h'
          by_cases a2 : k = i
          · by_cases b2 : k' = i
            · omega
            · rw [if_pos a2] at h; rw [if_neg b2] at h'; cases h; cases h'; omega
          · rw [if_neg a2] at h
            by_cases b2 : k' = i
            · rw [if_pos b2] at h'; cases h; cases h'; omega
            · rw [if_neg b2] at h'; cases h; cases h'; rfl
        · rw [if_neg b1] at h'; cases h'
      · rw [if_neg a1] at h; cases h
  · rw [List.set_eq_of_length_le (by omega), List.set_eq_of_length_le (by omega)]
    exact r.take hl
/-- what has come, stored -/
theorem putR_ok {K : PySem.W.Frag} {Z Y H : Hp} {σ : St} {s : S} {v : V} {r : R} {i : Nat} {k : S → Prop} (rx : RelX K Z Y H σ s [v] [r]) (h : putR i r s k) : ∃ Z' s', Same Z Z' ∧ Rel K Z' Y H (σ.set i (some v)) s' ∧ k s' := by
  cases r with
  | d x => exact ⟨Z, _, Same.refl _, Rel.put rx.rel rx.l1 i, h⟩
  | own w => exact ⟨Z, _, Same.refl _, Rel.put rx.rel rx.l1 i, h⟩
  | top j =>
    unfold putR at h
    dsimp only at h
    cases e : asD (s.getD j .no) with
    | none => rw [e] at h; exact h.elim
    | some x =>
      rw [e] at h
      have h' : frz (.top j) s fun d s' => k (s'.set i (.d d)) := by
        unfold frz; dsimp only; rw [e]; exact h
      obtain ⟨Z', d, s', hz, rx', h2⟩ := frz_ok (us := []) (ds := []) (vs := []) (rs := []) rx rfl h'
      exact ⟨Z', _, hz, Rel.put rx'.rel rx'.l1 i, h2⟩
theorem pfs_set {i : Nat} {x : Str} {pos' : Pos} (hN : X.N.Nodup) (he : PF X L e fa) (hi : X.N[i]? = some x := by rfl) (hx : Loc X.env.scope x := by first | exact Or.inl rfl | exact Or.inr rfl) (hio : i ∉ L.io := by exact of_decide_eq_true rfl) (hs : swapsWith e (some (.Name x pos')) pos.line X.env = pure false := by rfl) (hf : X.fn x = true ∨ X.env.scope.names.lookup x = some .local := by first | exact .inl rfl | exact .inr rfl) :
    PFS X L (.Assign [.Name x pos'] e pos) (fAsg i fa) := PS_imp (ps_set hN hi hx he hs hf) fun D σ H ⟨Z, Y, s, Ef, r, k, h, eo⟩ => by
  refine ⟨Z, Y, s, Ef.xx, _, r, k, eo.xx, h, fun v H1 Z1 r1 s1 hz rx h1 => ?_⟩
  obtain ⟨Z2, s2, hz2, rl2, h2⟩ := putR_ok rx h1
  exact eo.nx _ H1 Z2 s2 (hz.trans hz2) (L.keeps_set k hio) rl2 h2
/-- only the slots ws differ -/
def Only (ws : List Nat) (σ σ' : St) : Prop := σ'.length = σ.length ∧ ∀ j : Nat, j ∉ ws → σ'[j]? = σ[j]?
theorem Only.refl {ws : List Nat} {σ : St} : Only ws σ σ := ⟨rfl, fun _ _ => rfl⟩
theorem Only.trans {ws : List Nat} {σ σ1 σ2 : St} (a : Only ws σ σ1) (b : Only ws σ1 σ2) : Only ws σ σ2 := ⟨b.1.trans a.1, fun j h => (b.2 j h).trans (a.2 j h)⟩
theorem Only.set {ws : List Nat} {σ : St} {i : Nat} {v : Option V} (h : i ∈ ws) : Only ws σ (σ.set i v) := ⟨by simp, fun j hj => List.getElem?_set_ne (fun z : i = j => hj (z ▸ h))⟩
def liftG (X : Cx) (L : Lv) (ws : List Nat) (fg : FG) : TG := fun v σ H Q => ∃ Z Y s d Qf, Rel X.K Z Y H σ s ∧ L.keeps σ ∧ Rp X.K Z v d ∧ fg d s Qf ∧ ∀ σ' s', L.keeps σ' → Only ws σ σ' → Rel X.K Z Y H σ' s' → Qf s' → Q σ' H
def liftGs (X : Cx) (L : Lv) (ws : List Nat) (fg : List D → S → (S → Prop) → Prop) : TGs := fun vs σ H Q => ∃ Z Y s ds Qf, Rel X.K Z Y H σ s ∧ L.keeps σ ∧ RpAll X.K Z vs ds ∧ fg ds s Qf ∧ ∀ σ' s', L.keeps σ' → Only ws σ σ' → Rel X.K Z Y H σ' s' → Qf s' → Q σ' H
def PFG (X : Cx) (L : Lv) (ws : List Nat) (e : Expr) (fg : FG) : Prop := PG X e (liftG X L ws fg)
def PFGs (X : Cx) (L : Lv) (ws : List Nat) (es : List Expr) (fgs : List FG) : Prop := PGs X es (liftGs X L ws (gTp.gTps fgs))
variable {ws : List Nat}
theorem PG_imp {t t' : TG} (h : PG X e t) (hi : ∀ v σ H Q, t' v σ H Q → t v σ H Q) : PG X e t' := ⟨fun pins s σ H v u Q I r q => h.run pins s σ H v u Q I r (hi v σ H Q q)⟩
theorem PGs_imp {t t' : TGs} (h : PGs X es t) (hi : ∀ v σ H Q, t' v σ H Q → t v σ H Q) : PGs X es t' := ⟨fun pins s σ H v u Q I r q => h.run pins s σ H v u Q I r (hi v σ H Q q)⟩
theorem pfg_nm {i : Nat} {x : Str} (hN : X.N.Nodup) (hi : X.N[i]? = some x := by rfl) (hx : Loc X.env.scope x := by first | exact Or.inl rfl | exact Or.inr rfl) (hio : i ∉ L.io := by exact of_decide_eq_true rfl) (hws : i ∈ ws := by decide) (hf : X.fn x = true ∨ X.env.scope.names.lookup x = some .local := by first | exact .inl rfl | exact .inr rfl) : PFG X L ws (.Name x pos) (gNm i) :=
  PG_imp (pg_name hN hi hx hf) fun v σ H Q ⟨Z, Y, s, d, Qf, r, k, rp, h, q⟩ => q _ _ (L.keeps_set k hio) (.set hws) (Rel.put (r.pushD rp) r.len i) h
theorem pfgs_nil : PFGs X L ws [] [] := PGs_imp pgs_nil fun vs σ H Q ⟨Z, Y, s, ds, Qf, r, k, rp, h, q⟩ => by
  cases rp with
  | nil => exact ⟨rfl, q σ s k .refl r h⟩
  | cons _ _ => exact h.elim
theorem pfgs_cons {fg : FG} {fgs : List FG} (h1 : PFG X L ws e fg) (h2 : PFGs X L ws es fgs) (hs : (assignEach (e :: es) X.env).map (·.2) = assign e X.env :: (assignEach es X.env).map (·.2) := by rfl) : PFGs X L ws (e :: es) (fg :: fgs) :=
  PGs_imp (pgs_cons h1 h2 hs) fun vs σ H Q ⟨Z, Y, s, ds, Qf, r, k, rp, h, q⟩ => by
  cases rp with
  | nil => exact h.elim
  | cons rd ra =>
    refine ⟨_, _, rfl, Z, Y, s, _, _, r, k, rd, h, fun σ1 s1 k1 o1 r1 h1 => ?_⟩
    exact ⟨Z, Y, s1, _, Qf, r1, k1, ra, h1, fun σ2 s2 k2 o2 => q σ2 s2 k2 (o1.trans o2)⟩
/-- a tuple's target takes as many things as it has names -/
def TpLen (fgs : List FG) : Prop := ∀ ds s k, gTp.gTps fgs ds s k → ds.length = fgs.length
theorem tp2 {i j : Nat} : TpLen [gNm i, gNm j] := fun ds s k h => by
  match ds, h with
  | [_, _], _ => rfl
  | [], h => exact h.elim
  | [_], h => exact h.elim
  | _ :: _ :: _ :: _, h => exact h.elim
theorem pfg_tup {x1 : Nat} {fgs : List FG} (hc : X.calm = true) (h : PFGs X L ws es fgs) (hn : (assignEach es X.env).length = fgs.length := by rfl) (hst : (assignEach es X.env).findIdx? (·.1) = none := by rfl)
    (hlen : TpLen fgs) : PFG X L ws (.Tuple es x1 pos) (gTp fgs) :=
  PG_imp (pg_tup hc h hn hst) fun v σ H Q ⟨Z, Y, s, d, Qf, r, k, rp, h, q⟩ => by
  cases rp with
  | tup hs hz ra => exact ⟨_, _, rfl, tupSq (r.zh _ _ hs), (by rw [ra.length]; exact hlen _ _ _ h), Z, Y, s, _, Qf, r, k, ra, h, q⟩
  | _ => exact h.elim
/-- a, b = e1, e2 -/
theorem pfs_par {i j : Nat} {x y : Str} {px py pt : Pos} {kt k2 : Nat} {pt2 : Pos} (hc : X.calm = true) (hN : X.N.Nodup) (ha : PFA X L [a, b] fr) (hi : X.N[i]? = some x := by rfl) (hj : X.N[j]? = some y := by rfl) (hij : i ≠ j := by decide)
    (hx : X.env.scope.names.lookup x = some .local := by rfl) (hy : X.env.scope.names.lookup y = some .local := by rfl) (hio : i ∉ L.io := by exact of_decide_eq_true rfl) (hjo : j ∉ L.io := by exact of_decide_eq_true rfl)
    (hw : swappedStores [.Tuple [.Name x px, .Name y py] kt pt] (.Tuple [a, b] k2 pt2) X.env = pure (some [x, y]) := by rfl)
    (hs : swapsWithSole [.Tuple [.Name x px, .Name y py] kt pt] (.Tuple [a, b] k2 pt2) pos.line X.env = pure false := by rfl) : PFS X L (.Assign [.Tuple [.Name x px, .Name y py] kt pt] (.Tuple [a, b] k2 pt2) pos) (fPar i j fr) := PS_imp (ps_par hc hN hi hj hij hx hy ha hw hs) fun D σ H ⟨Z, Y, s, Ef, r, k, h, eo⟩ => by
  refine ⟨Z, Y, s, Ef.xx, _, r, k, eo.xx, h, fun vs H1 Z1 rs s1 hz rx hn h1 => ?_⟩
  have hl := rx.l2
  match rs, hn with
  | [r1, r2], _ =>
    match vs, hl with
    | [v, w], _ =>
      obtain ⟨Z2, d1, s2, hz2, rx2, h3⟩ := frz_ok (us := []) (ds := []) (vs := [w]) (rs := [r2]) rx rfl h1
      obtain ⟨Z3, d2, s3, hz3, rx3, h4⟩ := frz_ok (us := [v]) (ds := [d1]) (vs := []) (rs := []) rx2 rfl h3
      refine ⟨v, w, rfl, eo.nx _ H1 Z3 _ ((hz.trans hz2).trans hz3) (L.keeps_set (L.keeps_set k hio) hjo) ?_ h4⟩
      have q := RelX.rps (ds := [d1, d2]) rx3
      cases q with
      | cons q1 q2 =>
        cases q2 with
        | cons q2 _ =>
          have s1' := Rel.put (rx3.rel0.pushD q1) rx3.l1 i
          exact Rel.put (s1'.pushD q2) s1'.len j
end
end Hs
namespace Hs
open PySem PySem.Spec PyProof.Rows L2
section
variable {X : Cx} {L : Lv} {e a b c : Expr} {es : List Expr} {fa fb fc : FE} {ft fu : FT} {fr : FA} {pos p : Pos} {ws : List Nat}
structure Walks (K : PySem.W.Frag) (Z : Hp) (J : It) (xs : List D) : Prop where
  stop : ∀ i H, Same Z H → xs.length ≤ i → J.stop i H
  go : ∀ i H, Same Z H → i < xs.length → J.go i H
  yld : ∀ (i : Nat) H v H' Zc, Same Z Zc → Same Zc H → i < xs.length → J.yld i H v H' → ∃ d Z', xs[i]? = some d ∧ NewR K Zc H Z' H' v (.d d)
def liftI (X : Cx) (L : Lv) (fi : FI) : TI := fun σ H R => ∃ Z Y s Xf Qf, Rel X.K Z Y H σ s ∧ L.keeps σ ∧ XOk X L Z Y Xf ∧ fi Xf s Qf ∧ ∀ J H' Z' s' xs, Same Z Z' → Rel X.K Z' Y H' σ s' → Walks X.K Z' J xs → Qf xs s' → R J H'
def PFI (X : Cx) (L : Lv) (tg e : Expr) (fi : FI) : Prop := PI X tg e (liftI X L fi)
theorem PI_imp {tg : Expr} {t t' : TI} (h : PI X tg e t) (hi : ∀ σ H R, t' σ H R → t σ H R) : PI X tg e t' := ⟨fun pins s σ H R I q => h.run pins s σ H R I (hi σ H R q)⟩
def iSq (K : PySem.W.Frag) (tl : TE) : TI := fun σ H R => tl σ H fun x H1 => ∃ a, x = .ref a ∧ (((∃ xs, SqL K H1 a xs) ∧ R (Itl K a) H1) ∨ ((∃ xs, SqT K H1 a xs) ∧ R (Itt K a) H1))
theorem pi_sq {tg l : Expr} {tl : TE} (hl : PE X l tl) : PI X tg l (iSq X.K tl) := by
  refine ⟨fun pins s σ H R I h => ?_⟩
  refine thn (hl.run pins s σ H _ I h) fun v s1 ⟨x, H1, I1, r1, q1⟩ => ?_
  obtain ⟨a, e, q⟩ := q1
  subst e
  cases r1
  have one : ∀ {b : Addr}, b ∈ [s1.heap.objs.size] → b = s1.heap.objs.size := fun hb => by simpa using hb
  rcases q with ⟨⟨xs, hq⟩, q⟩ | ⟨⟨xs, hq⟩, q⟩
  · obtain ⟨its, rv, p, hz⟩ := I1.list hq
    refine wpAny_pyIter_list p.isList ?_
    refine ⟨s1.heap.objs.size, [s1.heap.objs.size], _, _, H1, rfl, I1.kept (t' := s1.toks) fun b o e => Heap.get?_push_of_some _ e, turn_list a _, ⟨_, Heap.get?_push_size _ rfl, rfl, rfl⟩, fun b hb => ?_, q⟩
    rw [one hb]
    exact I1.fpOk (Nat.le_refl _) (I1.hok.fresh (Nat.le_refl _))
  · obtain ⟨its, rv, p, hz⟩ := I1.tuple hq
    refine wpAny_pyIter_tuple (show s1.heap.IsTuple a its.toArray from p) ?_
    refine ⟨s1.heap.objs.size, [s1.heap.objs.size], _, _, H1, rfl, I1.kept (t' := s1.toks) fun b o e => Heap.get?_push_of_some _ e, turn_tuple a _, ⟨_, Heap.get?_push_size _ rfl, rfl, rfl⟩, fun b hb => ?_, q⟩
    rw [one hb]
    exact I1.fpOk (Nat.le_refl _) (I1.hok.fresh (Nat.le_refl _))
theorem walks_list {K : PySem.W.Frag} {Z : Hp} {a : Addr} {vs : List V} {xs : List D} (h : SqL K Z a vs) (r : RpAll K Z vs xs) : Walks K Z (Itl K a) xs where
  stop := fun i H e hi => ⟨vs, e.seq h, by rw [r.length]; exact hi⟩
  go := fun i H e hi => ⟨vs, vs[i]'(by rw [r.length]; exact hi), e.seq h, by simp⟩
  yld := fun i H v H' Zc e1 e2 hi ⟨eh, hv⟩ => by
    subst eh
    obtain ⟨d, hd, rd⟩ := r.getV (hv vs ((e1.trans e2).seq h))
    exact ⟨d, Zc, hd, .d e2 (rd.same e1)⟩
theorem walks_tup {K : PySem.W.Frag} {Z : Hp} {a : Addr} {vs : List V} {xs : List D} (h : SqT K Z a vs) (r : RpAll K Z vs xs) : Walks K Z (Itt K a) xs where
  stop := fun i H e hi => ⟨vs, same_sqT e h, by rw [r.length]; exact hi⟩
  go := fun i H e hi => ⟨vs, vs[i]'(by rw [r.length]; exact hi), same_sqT e h, by simp⟩
  yld := fun i H v H' Zc e1 e2 hi ⟨eh, hv⟩ => by
    subst eh
    obtain ⟨d, hd, rd⟩ := r.getV (hv vs (same_sqT (e1.trans e2) h))
    exact ⟨d, Zc, hd, .d e2 (rd.same e1)⟩
theorem rangeD_get {lo : Int} {n i : Nat} (h : i < n) : (rangeD lo n)[i]? = some (.int (lo + (i : Int))) := by
  unfold rangeD
  rw [List.getElem?_map, List.getElem?_range h]; rfl
theorem rangeD_len {lo : Int} {n : Nat} : (rangeD lo n).length = n := by unfold rangeD; rw [List.length_map, List.length_range]
theorem walks_range {K : PySem.W.Frag} {Z : Hp} {lo : Int} {n : Nat} : Walks K Z (Itr lo n) (rangeD lo n) where
  stop := fun i H e hi => by rw [rangeD_len] at hi; exact hi
  go := fun i H e hi => by rw [rangeD_len] at hi; exact hi
  yld := fun i H v H' Zc e1 e2 hi ⟨eh, hv⟩ => by
    subst eh hv
    rw [rangeD_len] at hi
    exact ⟨_, Zc, rangeD_get hi, .d e2 (.int _)⟩
theorem pfi_seq {tg : Expr} (he : PF X L e fa) : PFI X L tg e (iSeq fa) := PI_imp (pi_sq he) fun σ H R ⟨Z, Y, s, Xf, Qf, r, k, xo, h, q⟩ => by
  refine ⟨Z, Y, s, Xf, _, r, k, xo, h, fun v H1 Z1 r1 s1 hz rx h1 => ?_⟩
  obtain ⟨Z2, d, s2, hz2, rx2, h2⟩ := frz_ok (us := []) (ds := []) (vs := []) (rs := []) rx rfl h1
  have rv := rx2.vd
  cases rv with
  | lst hs hl ra => exact ⟨_, rfl, .inl ⟨⟨_, .inl (same_rd rx2.rel0.zh hs)⟩, q _ H1 Z2 s2 _ (hz.trans hz2) rx2.rel0 (walks_list (.inl hs) ra) h2⟩⟩
  | tup hs hl ra => exact ⟨_, rfl, .inr ⟨⟨_, tupSq (rx2.rel0.zh _ _ hs)⟩, q _ H1 Z2 s2 _ (hz.trans hz2) rx2.rel0 (walks_tup (tupSq hs) ra) h2⟩⟩
  | _ => exact h2.elim
theorem pfi_range1 {tg : Expr} (hg : Gl X "range") (hm : X.mg "range" = none) (ha : PFA X L [a] fr) (hs : starEach [a] X.env = [(false, eval a X.env)] := by rfl) : PFI X L tg (.Call (.Name "range" p) [a] [] pos) (iRange1 fr) :=
  PI_imp (pi_range1 hg hm ha hs) fun σ H R ⟨Z, Y, s, Xf, Qf, r, k, xo, h, q⟩ => by
  refine ⟨Z, Y, s, Xf, _, r, k, xo, h, fun vs H1 Z1 rs s1 hz rx hn h1 => ?_⟩
  split at h1
  · rename_i j
    obtain ⟨hj, h2⟩ := h1
    have rv := RelX.rps (ds := [.int j]) rx
    cases rv with
    | cons r1 r2 =>
      cases r1; cases r2
      exact ⟨j, rfl, hj.1, hj.2, q _ H1 Z1 s1 _ hz rx.rel0 walks_range h2⟩
  · exact h1.elim
theorem pfi_range2 {tg : Expr} (hg : Gl X "range") (hm : X.mg "range" = none) (ha : PFA X L [a, b] fr) (hs : starEach [a, b] X.env = [(false, eval a X.env), (false, eval b X.env)] := by rfl) (hs2 : starEach [b] X.env = [(false, eval b X.env)] := by rfl) : PFI X L tg (.Call (.Name "range" p) [a, b] [] pos) (iRange2 fr) :=
  PI_imp (pi_range2 hg hm ha hs hs2) fun σ H R ⟨Z, Y, s, Xf, Qf, r, k, xo, h, q⟩ => by
  refine ⟨Z, Y, s, Xf, _, r, k, xo, h, fun vs H1 Z1 rs s1 hz rx hn h1 => ?_⟩
  split at h1
  · rename_i i j
    obtain ⟨hi, hj, h2⟩ := h1
    have rv := RelX.rps (ds := [.int i, .int j]) rx
    cases rv with
    | cons r1 r2 =>
      cases r2 with
      | cons r2 r3 =>
        cases r1; cases r2; cases r3
        exact ⟨i, j, rfl, ⟨hi.1, hi.2, hj.1, hj.2⟩, q _ H1 Z1 s1 _ hz rx.rel0 walks_range h2⟩
  · exact h1.elim
theorem wipe_get (σ : St) : ∀ (vs : List Nat) (j : Nat), (wipe σ vs).getD j none = if j ∈ vs then none else σ.getD j none
  | [], j => by simp [wipe]
  | v :: vs, j => by
    unfold wipe
    by_cases h : v = j
    · subst h
      simp only [List.mem_cons, true_or, if_true]
      by_cases hv : v < (wipe σ vs).length
      · exact getD_set_self hv
      · exact getD_out (by simpa using hv)
    · rw [getD_set_ne h, wipe_get σ vs j]
      have : (j ∈ v :: vs) ↔ j ∈ vs := by simp [Ne.symm h]
      simp only [this]
theorem wipeS_len : ∀ (vs : List Nat) (s : S), (wipeS s vs).length = s.length
  | [], s => rfl
  | v :: vs, s => by unfold wipeS; rw [wipeS_len vs, List.length_set]
theorem wipeS_get : ∀ (vs : List Nat) (s : S) (j : Nat), (wipeS s vs).getD j .no = if j ∈ vs then .no else s.getD j .no
  | [], s, j => by simp [wipeS]
  | v :: vs, s, j => by
    unfold wipeS
    rw [wipeS_get vs]
    by_cases hj : j ∈ vs
    · rw [if_pos hj, if_pos (List.mem_cons_of_mem _ hj)]
    · rw [if_neg hj]
      by_cases h : v = j
      · subst h
        rw [if_pos List.mem_cons_self]
        by_cases hv : v < s.length
        · exact getD_set_self hv
        · exact getD_out (by simpa using hv)
      · rw [getD_set_ne h, if_neg (by simp [hj, Ne.symm h])]
theorem Rel.wipeS {K : PySem.W.Frag} {Z Y H : Hp} {σ : St} {s : S} (r : Rel K Z Y H σ s) (vs : List Nat) : Rel K Z Y H σ (wipeS s vs) :=
  r.re (fun k => if k ∈ vs then none else some k) (by rw [wipeS_len]; exact r.len) (fun k => by
    by_cases h : k ∈ vs
    · simp only [if_pos h]
      exact .inl (by rw [wipeS_get, if_pos h])
    · simp only [if_neg h]
      exact ⟨by rw [wipeS_get, if_neg h], trivial⟩) (fun k k' j h h' => by
    by_cases a : k ∈ vs
    · rw [if_pos a] at h; cases h
    · by_cases b : k' ∈ vs
      · rw [if_pos b] at h'; cases h'
      · rw [if_neg a] at h; rw [if_neg b] at h'; cases h; cases h'; rfl)
variable {f1 f2 : FS} {wp : List Nat}
theorem pfs_for {tg iter : Expr} {body : List Stmt} {fi : FI} {fg : FG} (hp : PassesOwn (model X.prog X.w) X.A X.env X.xe) (hc : X.calm = true) (hi : PFI X L tg iter fi) (hg : PFG X L ws tg fg) (hb : PFSs X L body f1)
    (hs : ∀ x, foldedSetIterable iter X.env x = pure x := by intro _; rfl) : PFS X L (.For tg iter body [] pos) (fFor fi fg wp f1) := PS_imp (ps_for hp hc hi hg hb hs) fun D σ H ⟨Z, Y, s, Ef, r, k, h, eo⟩ => by
  refine ⟨Z, Y, s, Ef.xx, _, r, k, eo.xx, h, fun J H1 Z1 s1 xs hz rl wk hloop => ?_⟩
  refine ⟨fun i m σ' H' => ∃ Z' s', Same Z1 Z' ∧ Rel X.K Z' Y H' σ' s' ∧ L.keeps σ' ∧ m = xs.length - i ∧ i ≤ xs.length ∧ fLoop fg wp f1 Ef (xs.drop i) s', ⟨xs.length, Z1, _, Same.refl _, rl.wipeS wp, k, rfl, Nat.zero_le _, hloop⟩, ?_⟩
  rintro i m σ' H' ⟨Z', s', hz', r', k', rfl, hle, hl⟩
  by_cases hlt : i < xs.length
  · refine .inr ⟨wk.go i H' (hz'.trans r'.zh) hlt, fun σ2 H2 => ∃ Z2 s2, Same Z' Z2 ∧ Rel X.K Z2 Y H2 σ2 s2 ∧ L.keeps σ2 ∧ fLoop fg wp f1 Ef (xs.drop (i + 1)) (wipeS s2 wp), fun σ2 H2 ⟨Z2, s2, hz2, r2, k2, h2⟩ => ⟨xs.length - (i + 1), by omega, Z2, _, hz'.trans hz2, r2.wipeS wp, k2, rfl, hlt, h2⟩, fun x H2 hy => ?_⟩
    obtain ⟨d, Z2, hd, n⟩ := wk.yld i H' x H2 Z' hz' r'.zh hlt hy
    have ed : xs.drop i = d :: xs.drop (i + 1) := by
      obtain ⟨h1, h2⟩ := List.getElem?_eq_some_iff.mp hd
      rw [List.drop_eq_getElem_cons hlt, h2]
    rw [ed] at hl
    have r2 : Rel X.K Z2 Y H2 σ' s' := r'.grow n.hh n.hz n.zh n.old
    refine ⟨Z2, Y, s', d, _, r2, k', n.val, hl, fun σ3 s3 k3 _ r3 h3 => ?_⟩
    refine ⟨Z2, Y, s3, _, r3, k3, h3, ⟨fun σ4 H4 Z4 s4 hz4 k4 r4 h4 => ⟨Z4, s4, n.hz.trans hz4, r4, k4, h4⟩, fun v σ4 H4 Z4 r0 s4 hz4 k4 rx4 h4 => eo.rt v σ4 H4 Z4 r0 s4 (((hz.trans hz').trans n.hz).trans hz4) k4 rx4 h4,
      fun σ4 H4 Z4 s4 hz4 k4 r4 h4 => eo.nx σ4 H4 Z4 _ (((hz.trans hz').trans n.hz).trans hz4) k4 (r4.wipeS wp) h4, fun σ4 H4 Z4 s4 hz4 k4 r4 h4 => ⟨Z4, s4, n.hz.trans hz4, r4, k4, h4⟩, eo.xx.z ((hz.trans hz').trans n.hz)⟩⟩
  · have ei : i = xs.length := by omega
    subst ei
    rw [List.drop_length] at hl
    exact .inl ⟨wk.stop _ H' (hz'.trans r'.zh) (Nat.le_refl _), eo.nx σ' H' Z' s' (hz.trans hz') k' r' hl⟩
theorem pfs_while {body : List Stmt} (hp : PassesOwn (model X.prog X.w) X.A X.env X.xe) (hc : PFT X L c ft) (hb : PFSs X L body f1) : PFS X L (.While c body [] pos) (fWhile wp ft f1) := PS_imp (ps_while hp hc hb) fun D σ H ⟨Z, Y, s, Ef, r, k, ⟨n, h⟩, eo⟩ => by
  refine ⟨fun m σ' H' => ∃ Z' s', Same Z Z' ∧ Rel X.K Z' Y H' σ' s' ∧ L.keeps σ' ∧ fWhileN wp ft f1 Ef m s', ⟨n, Z, _, Same.refl _, r.wipeS wp, k, h⟩, ?_⟩
  rintro m σ' H' ⟨Z', s', hz', r', k', hl⟩
  cases m with
  | zero => exact hl.elim
  | succ m =>
    refine ⟨Z', Y, s', Ef.xx, _, r', k', eo.xx.z hz', hl, fun d H1 Z1 s1 hz1 r1 h1 => ?_⟩
    cases d with
    | false => exact eo.nx σ' H1 Z1 s1 (hz'.trans hz1) k' r1 h1
    | true =>
      simp only [if_true] at h1 ⊢
      refine ⟨fun σ2 H2 => ∃ Z2 s2, Same Z1 Z2 ∧ Rel X.K Z2 Y H2 σ2 s2 ∧ L.keeps σ2 ∧ fWhileN wp ft f1 Ef m (wipeS s2 wp), fun σ2 H2 ⟨Z2, s2, hz2, r2, k2, h2⟩ => ⟨m, Nat.lt_succ_self m, Z2, _, (hz'.trans hz1).trans hz2, r2.wipeS wp, k2, h2⟩, ?_⟩
      exact ⟨Z1, Y, s1, _, r1, k', h1, ⟨fun σ4 H4 Z4 s4 hz4 k4 r4 h4 => ⟨Z4, s4, hz4, r4, k4, h4⟩, fun v σ4 H4 Z4 r0 s4 hz4 k4 rx4 h4 => eo.rt v σ4 H4 Z4 r0 s4 ((hz'.trans hz1).trans hz4) k4 rx4 h4,
        fun σ4 H4 Z4 s4 hz4 k4 r4 h4 => eo.nx σ4 H4 Z4 _ ((hz'.trans hz1).trans hz4) k4 (r4.wipeS wp) h4, fun σ4 H4 Z4 s4 hz4 k4 r4 h4 => ⟨Z4, s4, hz4, r4, k4, h4⟩, eo.xx.z (hz'.trans hz1)⟩⟩
theorem wipe_only {σ σ' : St} {vs : List Nat} (o : Only vs σ σ') : wipe σ' vs = wipe σ vs := by
  refine List.ext_getElem? fun j => ?_
  have g : ∀ τ : St, (wipe τ vs)[j]? = if j < τ.length then some (if j ∈ vs then none else τ.getD j none) else none := fun τ => by
    by_cases h : j < τ.length
    · rw [if_pos h]
      have q := wipe_get τ vs j
      rw [List.getD_eq_getElem?_getD, List.getElem?_eq_getElem (by rw [wipe_length]; exact h)] at q
      rw [List.getElem?_eq_getElem (by rw [wipe_length]; exact h)]
      exact congrArg some q
    · rw [if_neg h, List.getElem?_eq_none (by rw [wipe_length]; omega)]
  rw [g, g, o.1]
  by_cases h : j ∈ vs
  · simp [h]
  · simp only [h, if_false]
    rw [List.getD_eq_getElem?_getD, List.getD_eq_getElem?_getD, o.2 j h]
theorem wipe_wipe {σ : St} {vs : List Nat} : Only vs σ (wipe σ vs) := ⟨wipe_length σ vs, fun j h => by
  have q := wipe_get σ vs j
  rw [if_neg h, List.getD_eq_getElem?_getD, List.getD_eq_getElem?_getD] at q
  by_cases hj : j < σ.length
  · rw [List.getElem?_eq_getElem (by rw [wipe_length]; exact hj), List.getElem?_eq_getElem hj] at q ⊢
    exact congrArg some q
  · rw [List.getElem?_eq_none (by rw [wipe_length]; omega), List.getElem?_eq_none (by omega)]⟩
/-- the wiped slots hold nothing: whatever stands there -/
theorem Rel.unwipe {K : PySem.W.Frag} {Z Y H : Hp} {σ σ' ts : St} {s us : S} {vs : List Nat} (r : Rel K Z Y H (σ ++ ts) (s ++ us)) (o : Only vs σ σ') (hl : σ.length = s.length) (hn : ∀ j ∈ vs, s.getD j .no = .no) : Rel K Z Y H (σ' ++ ts) (s ++ us) := by
  refine r.re (fun k => if k < σ.length ∧ k ∈ vs then none else some k) (by have := r.len; simp only [List.length_append] at this ⊢; rw [o.1]; exact this) (fun k => ?_) (fun k k' j h h' => ?_)
  · by_cases h : k < σ.length ∧ k ∈ vs
    · simp only [if_pos h]
      exact .inl (by rw [getD_app_lt (by omega)]; exact hn k h.2)
    · simp only [if_neg h]
      refine ⟨trivial, ?_⟩
      by_cases hk : k < σ.length
      · have hv : k ∉ vs := fun z => h ⟨hk, z⟩
        rw [getD_app_lt (by rw [o.1]; exact hk), getD_app_lt hk, List.getD_eq_getElem?_getD, List.getD_eq_getElem?_getD, o.2 k hv]
      · rw [getD_app_ge (by rw [o.1]; omega), getD_app_ge (by omega), o.1]
  · by_cases a1 : k < σ.length ∧ k ∈ vs
    · rw [if_pos a1] at h; cases h
    · by_cases b1 : k' < σ.length ∧ k' ∈ vs
      · rw [if_pos b1] at h'; cases h'
      · rw [if_neg a1] at h; rw [if_neg b1] at h'; cases h; cases h'; rfl
theorem Rel.wipe2 {K : PySem.W.Frag} {Z Y H : Hp} {σ ts : St} {s us : S} (r : Rel K Z Y H (σ ++ ts) (s ++ us)) (hl : σ.length = s.length) (vs : List Nat) : Rel K Z Y H (wipe σ vs ++ ts) (Hs.wipeS s vs ++ us) := by
  refine Rel.unwipe (σ := σ) (vs := vs) ?_ wipe_wipe (by rw [wipeS_len]; exact hl) fun j hj => by rw [wipeS_get, if_pos hj]
  refine r.re (fun k => if k < σ.length ∧ k ∈ vs then none else some k) (by have := r.len; simp only [List.length_append, wipeS_len] at this ⊢; exact this) (fun k => ?_) (fun k k' j h h' => ?_)
  · by_cases h : k < σ.length ∧ k ∈ vs
    · simp only [if_pos h]
      exact .inl (by rw [getD_app_lt (by rw [wipeS_len]; omega), wipeS_get, if_pos h.2])
    · simp only [if_neg h]
      refine ⟨?_, trivial⟩
      by_cases hk : k < σ.length
      · have hv : k ∉ vs := fun z => h ⟨hk, z⟩
        rw [getD_app_lt (by rw [wipeS_len]; omega), getD_app_lt (by omega), wipeS_get, if_neg hv]
      · rw [getD_app_ge (by rw [wipeS_len]; omega), getD_app_ge (by omega), wipeS_len]
  · by_cases a1 : k < σ.length ∧ k ∈ vs
    · rw [if_pos a1] at h; cases h
    · by_cases b1 : k' < σ.length ∧ k' ∈ vs
      · rw [if_pos b1] at h'; cases h'
      · rw [if_neg a1] at h; rw [if_neg b1] at h'; cases h; cases h'; rfl
/-- within a comprehension no error leaves -/
def Lv.in0 (L : Lv) : Lv := { L with E := fun _ _ _ _ => False }
theorem XOk.none {Z Y : Hp} : XOk X L Z Y fun _ _ => False := fun _ _ _ _ _ _ _ _ _ h _ => h.elim
structure PFTs (X : Cx) (L : Lv) (ifs : List Expr) (ft : FT) : Prop where
  h : PTs X ifs (liftT X L ft)
theorem pfts_nil : PFTs X L [] fYes := ⟨⟨fun pins s σ H Q I ⟨Z, Y, s', Xf, Qf, r, k, xo, h, q⟩ => pts_nil.run pins s σ H Q I (q true H Z s' (Same.refl _) r h)⟩⟩
theorem pfts_one {c : Expr} (h : PFT X L c ft) : PFTs X L [c] ft := ⟨pts_one h⟩
theorem fLc_ok {fi : FI} {fg : FG} {vs : List Nat} {σ : St} {H : Hp} {Q : VK} (hv : ∀ j ∈ vs, j ∉ L.io) (h : liftE X L (fLc fi fg vs ft fa) σ H Q) :
    tLc (liftI X L fi) (liftG X L.in0 vs fg) (liftT X L.in0 ft) (liftE X L.in0 fa) vs σ H Q := by
  obtain ⟨Z, Y, s, Xf, Qf, r, k, xo, h, q⟩ := h
  refine ⟨Z, Y, s, Xf, _, r, k, xo, h, fun J H1 Z1 s1 xs hz rl wk ⟨hsz, hcomp⟩ => fun D hD => ?_⟩
  have kw : L.keeps (wipe σ vs) := ⟨by rw [wipe_length]; exact k.1, fun j hj => by
    rw [wipe_get, if_neg (fun z => hv j z hj)]
    exact k.2 j hj⟩
  refine ⟨fun i m H' => ∃ Z' s' acc avs, Same Z1 Z' ∧ Rel X.K Z' Y H' (wipe σ vs ++ [some (.ref D)]) (s' ++ [.l acc]) ∧ s'.length = σ.length ∧ (∀ j ∈ vs, s'.getD j .no = .no) ∧ H' D = some (.lst avs) ∧ avs.length ≤ i ∧ m = xs.length - i ∧ i ≤ xs.length ∧ fComp (fun _ _ => False) fg vs ft fa Qf (xs.drop i) acc s',
    ⟨xs.length, Z1, wipeS s1 vs, [], [], Same.refl _, Rel.wipe2 (rl.newL (vs := []) (xs := []) hD (Nat.zero_le _) .nil) rl.len vs, by rw [wipeS_len]; exact rl.len.symm, fun j hj => by rw [wipeS_get, if_pos hj], upd_same, Nat.le_refl _, rfl, Nat.zero_le _, hcomp⟩, ?_⟩
  rintro i m H' ⟨Z', s', acc, avs, hz', r', hl', hno, hDl, hal, rfl, hle, hl⟩
  have hl'' : (wipe σ vs).length = s'.length := by rw [wipe_length, hl']
  by_cases hlt : i < xs.length
  · refine .inr ⟨wk.go i H' (hz'.trans r'.zh) hlt, fun H2 => ∃ Z2 s2 acc2 avs2, Same Z' Z2 ∧ Rel X.K Z2 Y H2 (wipe σ vs ++ [some (.ref D)]) (s2 ++ [.l acc2]) ∧ s2.length = σ.length ∧ (∀ j ∈ vs, s2.getD j .no = .no) ∧ H2 D = some (.lst avs2) ∧ avs2.length ≤ i + 1 ∧ fComp (fun _ _ => False) fg vs ft fa Qf (xs.drop (i + 1)) acc2 s2,
      fun H2 ⟨Z2, s2, acc2, avs2, hz2, r2, l2, n2, d2, al2, h2⟩ => ⟨xs.length - (i + 1), by omega, Z2, s2, acc2, avs2, hz'.trans hz2, r2, l2, n2, d2, al2, rfl, hlt, h2⟩, fun x H2 hy => ?_⟩
    obtain ⟨d, Z2, hd, n⟩ := wk.yld i H' x H2 Z' hz' r'.zh hlt hy
    have ed : xs.drop i = d :: xs.drop (i + 1) := by
      obtain ⟨h1, h2⟩ := List.getElem?_eq_some_iff.mp hd
      rw [List.drop_eq_getElem_cons hlt, h2]
    rw [ed] at hl
    have r2 : Rel X.K Z2 Y H2 (wipe σ vs ++ [some (.ref D)]) (s' ++ [.l acc]) := r'.grow n.hh n.hz n.zh n.old
    have hD2 : H2 D = some (.lst avs) := n.hh _ _ hDl
    obtain ⟨Y', hy', rl2, back, held⟩ := r2.frame hl''
    have yD : Y' D = some (.lst avs) := by
      obtain ⟨F, p', v', e1, e2, e3, _⟩ := held 0
      cases e1
      exact e3.trans ((rl2.yh _ _ e3).symm.trans hD2)
    have bk : ∀ Z1 H1 σ1 s1, Same Z2 Z1 → Rel X.K Z1 Y' H1 σ1 s1 → Rel X.K Z1 Y H1 σ1 s1 := fun Z1 H1 σ1 s1 hz q => (back Z1 H1 σ1 s1 hz q).take q.len
    refine ⟨Z2, Y', s', d, _, rl2, kw, n.val, hl, fun σ3 s3 k3 o3 r3 h3 => ⟨(wipe_only o3).trans (wipe_only wipe_wipe), ?_⟩⟩
    refine ⟨Z2, Y', s3, fun _ _ => False, _, r3, k3, XOk.none, h3, fun b H3 Z3 s4 hz3 r4 h4 => ?_⟩
    have e34 : wipe σ3 vs = wipe σ vs := (wipe_only o3).trans (wipe_only wipe_wipe)
    cases b with
    | false =>
      have h4 : fComp (fun _ _ => False) fg vs ft fa Qf (xs.drop (i + 1)) acc (Hs.wipeS s4 vs) := h4
      have b4 := back Z3 H3 _ _ hz3 r4
      have w4 := b4.wipe2 r4.len vs
      rw [e34] at w4
      exact ⟨Z3, Hs.wipeS s4 vs, acc, avs, n.hz.trans hz3, w4, by rw [wipeS_len, ← r4.len, o3.1, wipe_length], fun j hj => by rw [wipeS_get, if_pos hj], r4.yh _ _ yD, Nat.le_succ_of_le hal, h4⟩
    | true =>
      have h4 : fa (fun _ _ => False) s4 fun r s3 => frz r s3 fun d s4 => fComp (fun _ _ => False) fg vs ft fa Qf (xs.drop (i + 1)) (acc ++ [d]) (Hs.wipeS s4 vs) := h4
      refine ⟨Z3, Y', s4, fun _ _ => False, _, r4, k3, XOk.none, h4, fun y H5 Z5 r5 s5 hz5 rx5 h5 => ?_⟩
      have hD5 : H5 D = some (.lst avs) := rx5.rel0.yh _ _ yD
      obtain ⟨Z6, d6, s6, hz6, rx6, h6⟩ := frz_ok (us := []) (ds := []) (vs := []) (rs := []) rx5 rfl h5
      have b6 := back Z6 H5 _ _ ((hz3.trans hz5).trans hz6) rx6.rel0
      refine ⟨avs, hD5, Nat.lt_of_le_of_lt hal (Nat.lt_of_lt_of_le hlt hsz), Z6, Hs.wipeS s6 vs, acc ++ [d6], avs ++ [y], ((n.hz.trans hz3).trans hz5).trans hz6, ?_, by rw [wipeS_len, ← rx6.l1, o3.1, wipe_length], fun j hj => by rw [wipeS_get, if_pos hj], upd_same, by rw [List.length_append]; exact Nat.succ_le_succ hal, h6⟩
      have racc : RpAll X.K Z6 avs acc := by
        obtain ⟨F, q⟩ := b6.slot σ3.length
        rw [getD_app_ge (Nat.le_refl _), getD_app_ge (by rw [rx6.l1]; exact Nat.le_refl _), Nat.sub_self, rx6.l1, Nat.sub_self] at q
        obtain ⟨p', v', e1, e2, e3, e4, e5⟩ := q
        cases e1
        rw [hD5] at e3; cases e3
        exact e5
      have w6 := Rel.write (i := σ3.length) (xs' := acc ++ [d6]) (vs' := avs ++ [y]) b6 (by rw [getD_app_ge (by rw [rx6.l1]; exact Nat.le_refl _), rx6.l1, Nat.sub_self]; rfl) (by rw [getD_app_ge (Nat.le_refl _), Nat.sub_self]; rfl)
        (by rw [List.length_append]; exact Nat.succ_le_of_lt (Nat.lt_of_le_of_lt hal (Nat.lt_of_lt_of_le hlt hsz))) (racc.append (.cons rx6.vd .nil))
      rw [List.set_append_right _ _ (by rw [rx6.l1]; exact Nat.le_refl _), rx6.l1, Nat.sub_self] at w6
      have w7 := Rel.wipe2 w6 rx6.l1 vs
      rw [e34] at w7
      exact w7
  · have ei : i = xs.length := by omega
    subst ei
    rw [List.drop_length] at hl
    have r9 : Rel X.K Z' Y H' (σ ++ [some (.ref D)]) (s' ++ [.l acc]) := Rel.unwipe r' (vs := vs) ⟨(wipe_length σ vs).symm, fun j hj => (wipe_wipe.2 j hj).symm⟩ hl'' hno
    exact .inl ⟨wk.stop _ H' (hz'.trans r'.zh) (Nat.le_refl _), q _ H' Z' _ s' (hz.trans hz') (.own hl'.symm r9) hl⟩
end
end Hs
namespace Hs
open PySem PySem.Spec PyProof.Rows L2
section
variable {X : Cx} {L : Lv} {e a b c : Expr} {es : List Expr} {fa fb fc : FE} {ft fu : FT} {fr : FA} {pos p : Pos} {ws : List Nat}
theorem pf_lc {elt tg iter : Expr} {ifs : List Expr} {scope : Scope} {own : List (Str × Nat)} {fi : FI} {fg : FG} (hc : X.calm = true) (hN : X.N.Nodup) (hi : PFI X L tg iter fi) (ok : BlkOk X.N X.env.scope scope own)
    (hg : ∀ (s : Shared) (H : Hp) (C : Addr) (cl : List (Str × Addr)) (fp : List Addr), PFG (X.blk s H scope (compEnvC scope cl C X.env) fp) L.in0 (own.map fun p : Str × Nat => p.2) tg fg) (ht : ∀ (s : Shared) (H : Hp) (C : Addr) (cl : List (Str × Addr)) (fp : List Addr), PFTs (X.blk s H scope (compEnvC scope cl C X.env) fp) L.in0 ifs ft)
    (he : ∀ (s : Shared) (H : Hp) (C : Addr) (cl : List (Str × Addr)) (fp : List Addr), PF (X.blk s H scope (compEnvC scope cl C X.env) fp) L.in0 elt fa) (hv : ∀ j ∈ (own.map fun p : Str × Nat => p.2), j ∉ L.io := by exact of_decide_eq_true rfl) (hs : ∀ x, foldedSetIterable iter X.env x = pure x := by intro _; rfl) :
    PF X L (.ListComp elt [⟨tg, iter, ifs, 0⟩] scope pos) (fLc fi fg (own.map fun p : Str × Nat => p.2) ft fa) := PE_imp (pe_lc (own := own) (wi := liftI X L fi) (g := liftG X L.in0 (own.map fun p : Str × Nat => p.2) fg) (tt := liftT X L.in0 ft) (te := liftE X L.in0 fa) hc hN hi ok hg (fun s H C cl fp => (ht s H C cl fp).h) he hs) fun σ H Q h => fLc_ok hv h
theorem pfs_setLc {i : Nat} {y : Str} {py : Pos} {elt tg iter : Expr} {ifs : List Expr} {scope : Scope} {own : List (Str × Nat)} {spos : Pos} {fi : FI} {fg : FG} (hc : X.calm = true) (hN : X.N.Nodup)
    (hsw : swapsWith (.ListComp elt [⟨tg, iter, ifs, 0⟩] scope pos) (some (.Name y py)) spos.line X.env = pure true) (hi : PFI X L tg iter fi) (ok : BlkOk X.N X.env.scope scope own)
    (hg : ∀ (s : Shared) (H : Hp) (C : Addr) (cl : List (Str × Addr)) (fp : List Addr), PFG (X.blk s H scope (compEnvC scope cl C X.env) fp) L.in0 (own.map fun p : Str × Nat => p.2) tg fg) (ht : ∀ (s : Shared) (H : Hp) (C : Addr) (cl : List (Str × Addr)) (fp : List Addr), PFTs (X.blk s H scope (compEnvC scope cl C X.env) fp) L.in0 ifs ft)
    (he : ∀ (s : Shared) (H : Hp) (C : Addr) (cl : List (Str × Addr)) (fp : List Addr), PF (X.blk s H scope (compEnvC scope cl C X.env) fp) L.in0 elt fa) (hy : X.N[i]? = some y := by rfl) (hyl : X.env.scope.names.lookup y = some .local := by rfl) (hio : i ∉ L.io := by exact of_decide_eq_true rfl)
    (hv : ∀ j ∈ (own.map fun p : Str × Nat => p.2), j ∉ L.io := by exact of_decide_eq_true rfl) (hs : ∀ x, foldedSetIterable iter X.env x = pure x := by intro _; rfl) :
    PFS X L (.Assign [.Name y py] (.ListComp elt [⟨tg, iter, ifs, 0⟩] scope pos) spos) (fAsg i (fLc fi fg (own.map fun p : Str × Nat => p.2) ft fa)) :=
  PS_imp (ps_setLc (own := own) (wi := liftI X L fi) (g := liftG X L.in0 (own.map fun p : Str × Nat => p.2) fg) (tt := liftT X L.in0 ft) (te := liftE X L.in0 fa) hc hN hy hyl hsw hi ok hg (fun s H C cl fp => (ht s H C cl fp).h) he hs) fun D σ H ⟨Z, Y, s, Ef, r, k, h, eo⟩ => by
  refine fLc_ok (Q := fun x H1 => gName i x σ H1 D.nx) hv ⟨Z, Y, s, Ef.xx, _, r, k, eo.xx, h, fun v H1 Z1 r1 s1 hz rx h1 => ?_⟩
  obtain ⟨Z2, s2, hz2, rl2, h2⟩ := putR_ok rx h1
  exact eo.nx _ H1 Z2 s2 (hz.trans hz2) (L.keeps_set k hio) rl2 h2
/-- a def keeps what its text does; io: the parameters that it may change -/
def liftSp (K : PySem.W.Frag) (mg : Str → Option Value) (io : List Nat) (np : Nat) (sem : FSem) : Sp := fun vs H Q E => ∃ Z Y svs Xf Qf, vs.length = np ∧ Rel K Z Y H (vs.map some) svs ∧ sem svs Xf Qf ∧
  (∀ u H' Z' σ' fin r, Same Z Z' → (∀ k ∈ io, σ'.getD k none = (vs.map some).getD k none) → σ'.length = np → RelX K Z' Y H' σ' fin [u] [r] → (∀ i, r ≠ .top i) → Qf r fin → Q u H') ∧
  (∀ n C H' Z' σ' fin, Same Z Z' → (∀ k ∈ io, σ'.getD k none = (vs.map some).getD k none) → σ'.length = np → Rel K Z' Y H' σ' fin → Xf n fin → mg n = some (.ref C) → E (.ref C) none H')
theorem app_set {α : Type} (a b : List α) (w x : α) (t : List α) : a ++ (b ++ x :: t) = (a ++ (b ++ w :: t)).set (a.length + b.length) x := by
  rw [List.set_append_right _ _ (by omega), Nat.add_sub_cancel_left, List.set_append_right _ _ (Nat.le_refl _), Nat.sub_self]; rfl
theorem bindA_ok {K : PySem.W.Frag} {Y H : Hp} {σ : St} : ∀ {ms : List Bool} {rs : List R} {vs us : List V} {ds : S} {Z : Hp} {s : S} {k : List SV → S → Prop},
    Rel K Z Y H (σ ++ (us ++ vs).map some) (s ++ (ds ++ rs.map svR)) → σ.length = s.length → us.length = ds.length → vs.length = rs.length → (∀ (j i : Nat), rs[j]? = some (R.top i) → i < σ.length ∧ σ.getD i none = vs[j]?) → bindA ms rs s k →
    ∃ Z' svs s', Same Z Z' ∧ Rel K Z' Y H (σ ++ (us ++ vs).map some) (s' ++ (ds ++ svs)) ∧ s'.length = s.length ∧ svs.length = vs.length ∧ ms.length = rs.length ∧ k svs s'
  | [], [], [], us, ds, Z, s, k, r, hl, hu, hv, tp, h => ⟨Z, [], s, Same.refl _, r, rfl, rfl, rfl, h⟩
  | [], [], _ :: _, us, ds, Z, s, k, r, hl, hu, hv, tp, h => by cases hv
  | [], _ :: _, vs, us, ds, Z, s, k, r, hl, hu, hv, tp, h => h.elim
  | true :: _, [], vs, us, ds, Z, s, k, r, hl, hu, hv, tp, h => h.elim
  | false :: _, [], vs, us, ds, Z, s, k, r, hl, hu, hv, tp, h => h.elim
  | m :: ms, r0 :: rs, [], us, ds, Z, s, k, r, hl, hu, hv, tp, h => by cases hv
  | m :: ms, r0 :: rs, v :: vs, us, ds, Z, s, k, r, hl, hu, hv, tp, h => by
    have tp' : ∀ (j i : Nat), rs[j]? = some (R.top i) → i < σ.length ∧ σ.getD i none = vs[j]? := fun j i e => tp (j + 1) i e
    have hl2 := r.len
    have ev : (us ++ v :: vs) = (us ++ [v]) ++ vs := by simp
    have go : ∀ {Z1 : Hp} {w : SV} {s1 : S} {k1 : List SV → S → Prop}, Same Z Z1 → s1.length = s.length → Rel K Z1 Y H (σ ++ (us ++ v :: vs).map some) (s1 ++ (ds ++ w :: rs.map svR)) → bindA ms rs s1 k1 → (∀ svs s', k1 svs s' → k (w :: svs) s') →
        ∃ Z' svs s', Same Z Z' ∧ Rel K Z' Y H (σ ++ (us ++ v :: vs).map some) (s' ++ (ds ++ svs)) ∧ s'.length = s.length ∧ svs.length = (v :: vs).length ∧ (m :: ms).length = (r0 :: rs).length ∧ k svs s' := by
      intro Z1 w s1 k1 hz1 hl1 r1 h1 hk
      have e2 : ds ++ w :: rs.map svR = (ds ++ [w]) ++ rs.map svR := by simp
      rw [ev, e2] at r1
      obtain ⟨Z', svs, s', hz, r2, hls, hlv, hlm, hk2⟩ := bindA_ok r1 (by rw [hl1]; exact hl) (by simp [hu]) (by simpa using hv) tp' h1
      refine ⟨Z', w :: svs, s', hz1.trans hz, ?_, hls.trans hl1, by simp [hlv], by simp [hlm], hk _ _ hk2⟩
      rw [ev]
      simpa using r2
    have ix : ∀ (w : SV) (t : S), (s ++ (ds ++ w :: t)).getD (s.length + ds.length) .no = w := fun w t => by
      rw [getD_app_ge (by omega), Nat.add_sub_cancel_left, getD_app_ge (Nat.le_refl _), Nat.sub_self]; rfl
    have iv : (σ ++ (us ++ v :: vs).map some).getD (s.length + ds.length) none = some v := by
      rw [← hl, ← hu, getD_app_ge (by omega), Nat.add_sub_cancel_left, List.map_append, getD_app_ge (by simp), List.length_map, Nat.sub_self]; rfl
    -- the k-th argument's content is exchanged: by a value that nobody changes
    have byD : ∀ {Z1 : Hp} {s1 : S} {w : SV} {x : D}, s1.length = s.length → Rel K Z1 Y H (σ ++ (us ++ v :: vs).map some) (s1 ++ (ds ++ w :: rs.map svR)) → Rp K Z1 v x → Rel K Z1 Y H (σ ++ (us ++ v :: vs).map some) (s1 ++ (ds ++ .d x :: rs.map svR)) := by
      intro Z1 s1 w x hl1 r1 rp
      refine r1.re (fun k => if k = s.length + ds.length then none else some k) (by have := r1.len; simpa using this) (fun k => ?_) (fun k k' j h h' => ?_)
      · by_cases hk : k = s.length + ds.length
        · simp only [if_pos hk]
          refine .inr ⟨x, v, ?_, by rw [hk]; exact iv, rp⟩
          rw [hk, ← hl1, getD_app_ge (by omega), Nat.add_sub_cancel_left, getD_app_ge (Nat.le_refl _), Nat.sub_self]; rfl
        · simp only [if_neg hk]
          refine ⟨?_, trivial⟩
          rw [app_set s1 ds w (.d x) (rs.map svR), hl1, getD_set_ne (Ne.symm hk)]
      · by_cases e1 : k = s.length + ds.length
        · rw [if_pos e1] at h; cases h
        · by_cases e2 : k' = s.length + ds.length
          · rw [if_pos e2] at h'; cases h'
          · rw [if_neg e1] at h; rw [if_neg e2] at h'; cases h; cases h'; rfl
    cases m with
    | false =>
      cases r0 with
      | d x => exact go (Same.refl _) rfl r h fun _ _ q => q
      | own w =>
        have h : (match asD w with | some x => bindA ms rs s fun svs s2 => k (.d x :: svs) s2 | none => False) := h
        cases e : asD w with
        | none => rw [e] at h; exact h.elim
        | some x =>
          rw [e] at h
          obtain ⟨Z1, hz1, r1⟩ := r.freeze (i := s.length + ds.length) (x := x) (by rw [show ((R.own w :: rs).map svR) = w :: rs.map svR from rfl, ix]; exact e)
          have es : (s ++ (ds ++ (R.own w :: rs).map svR)).set (s.length + ds.length) (.d x) = s ++ (ds ++ .d x :: rs.map svR) := by
            rw [List.set_append_right _ _ (by omega), Nat.add_sub_cancel_left, List.set_append_right _ _ (Nat.le_refl _), Nat.sub_self]; rfl
          rw [es] at r1
          exact go hz1 rfl r1 h fun _ _ q => q
      | top i =>
        have h : (match asD (s.getD i .no) with | some x => bindA ms rs (s.set i (.d x)) fun svs s2 => k (.d x :: svs) s2 | none => False) := h
        cases e : asD (s.getD i .no) with
        | none => rw [e] at h; exact h.elim
        | some x =>
          rw [e] at h
          obtain ⟨hi, hvi⟩ := tp 0 i rfl
          have his : i < s.length := by omega
          obtain ⟨Z1, hz1, r1⟩ := r.freeze (i := i) (x := x) (by rw [getD_app_lt his]; exact e)
          rw [List.set_append_left _ _ his] at r1
          have rp : Rp K Z1 v x := by
            obtain ⟨F, q⟩ := r1.slot i
            rw [getD_app_lt hi, getD_app_lt (by rw [List.length_set]; exact his), getD_set_self his, hvi] at q
            obtain ⟨_, u, e1, rp⟩ := q
            cases e1
            exact rp
          exact go hz1 (by rw [List.length_set]) (byD (by rw [List.length_set]) r1 rp) h fun _ _ q => q
    | true =>
      cases r0 with
      | d x => exact go (Same.refl _) rfl r h fun _ _ q => q
      | own w => exact go (Same.refl _) rfl r h fun _ _ q => q
      | top i =>
        obtain ⟨hi, hvi⟩ := tp 0 i rfl
        have his : i < s.length := by omega
        have h : bindA ms rs (s.set i .no) fun svs s2 => k (s.getD i .no :: svs) s2 := h
        refine go (w := s.getD i .no) (s1 := s.set i .no) (Same.refl _) (by rw [List.length_set]) ?_ h fun _ _ q => q
        -- the content moves from the slot to the argument
        refine r.re (fun k => if k = s.length + ds.length then some i else if k = i then none else some k) (by have := r.len; simpa using this) (fun k => ?_) (fun k k' j h h' => ?_)
        · by_cases hk : k = s.length + ds.length
          · simp only [if_pos hk]
            refine ⟨?_, ?_⟩
            · rw [hk, getD_app_lt his, getD_app_ge (by rw [List.length_set]; omega), List.length_set, Nat.add_sub_cancel_left, getD_app_ge (Nat.le_refl _), Nat.sub_self]; rfl
            · rw [hk, iv, getD_app_lt hi, hvi]; rfl
          · simp only [if_neg hk]
            by_cases h0 : k = i
            · simp only [if_pos h0]
              exact .inl (by rw [h0, getD_app_lt (by rw [List.length_set]; exact his), getD_set_self his])
            · simp only [if_neg h0]
              refine ⟨?_, trivial⟩
              rw [app_set (s.set i .no) ds .no (s.getD i .no) (rs.map svR), List.length_set, getD_set_ne (Ne.symm hk), ← List.set_append_left _ _ his, getD_set_ne (Ne.symm h0)]
              rfl
        · split at h <;> split at h' <;> (try split at h) <;> (try split at h') <;> (try cases h) <;> (try cases h') <;> (try injection h with h) <;> (try injection h' with h') <;> omega
theorem putB_len : ∀ {ms : List Bool} {rs : List R} {fin s : S}, (putB ms rs fin s).length = s.length
  | true :: ms, .top i :: rs, f :: fin, s => by unfold putB; rw [putB_len, List.length_set]
  | true :: ms, .d x :: rs, f :: fin, s => by unfold putB; exact putB_len
  | true :: ms, .own x :: rs, f :: fin, s => by unfold putB; exact putB_len
  | false :: ms, r :: rs, f :: fin, s => by unfold putB; exact putB_len
  | [], _, _, _ => rfl
  | true :: _, [], _, _ => rfl
  | false :: _, [], _, _ => rfl
  | true :: _, .top _ :: _, [], _ => rfl
  | true :: _, .d _ :: _, [], _ => rfl
  | true :: _, .own _ :: _, [], _ => rfl
  | false :: _, _ :: _, [], _ => rfl
/-- a slot behind the call: as it was, or what the argument that lent it holds -/
theorem putB_at : ∀ {ms : List Bool} {rs : List R} {fin s : S} (i : Nat), (putB ms rs fin s).getD i .no = s.getD i .no ∨ ∃ k : Nat, ms[k]? = some true ∧ rs[k]? = some (.top i) ∧ (putB ms rs fin s).getD i .no = fin.getD k .no
  | true :: ms, .top j :: rs, f :: fin, s, i => by
    unfold putB
    rcases putB_at (ms := ms) (rs := rs) (fin := fin) (s := s.set j f) i with h | ⟨k, h1, h2, h3⟩
    · by_cases hj : j = i
      · subst hj
        by_cases hlt : j < s.length
        · refine .inr ⟨0, rfl, rfl, ?_⟩
          rw [h, getD_set_self hlt]; rfl
        · refine .inl ?_
          rw [h, List.set_eq_of_length_le (by omega)]
      · exact .inl (by rw [h, getD_set_ne hj])
    · exact .inr ⟨k + 1, h1, h2, h3⟩
  | true :: ms, .d x :: rs, f :: fin, s, i => by
    unfold putB
    rcases putB_at (ms := ms) (rs := rs) (fin := fin) (s := s) i with h | ⟨k, h1, h2, h3⟩
    · exact .inl h
    · exact .inr ⟨k + 1, h1, h2, h3⟩
  | true :: ms, .own x :: rs, f :: fin, s, i => by
    unfold putB
    rcases putB_at (ms := ms) (rs := rs) (fin := fin) (s := s) i with h | ⟨k, h1, h2, h3⟩
    · exact .inl h
    · exact .inr ⟨k + 1, h1, h2, h3⟩
  | false :: ms, r :: rs, f :: fin, s, i => by
    unfold putB
    rcases putB_at (ms := ms) (rs := rs) (fin := fin) (s := s) i with h | ⟨k, h1, h2, h3⟩
    · exact .inl h
    · exact .inr ⟨k + 1, h1, h2, h3⟩
  | [], _, _, _, _ => .inl rfl
  | true :: _, [], _, _, _ => .inl rfl
  | false :: _, [], _, _, _ => .inl rfl
  | true :: _, .top _ :: _, [], _, _ => .inl rfl
  | true :: _, .d _ :: _, [], _, _ => .inl rfl
  | true :: _, .own _ :: _, [], _, _ => .inl rfl
  | false :: _, _ :: _, [], _, _ => .inl rfl
/-- the parameters that are lent -/
def ioOf (ms : List Bool) : List Nat := (List.range ms.length).filter fun k => ms.getD k false
theorem mem_ioOf {ms : List Bool} {k : Nat} (h : ms[k]? = some true) : k ∈ ioOf ms := by
  obtain ⟨h1, h2⟩ := List.getElem?_eq_some_iff.mp h
  exact List.mem_filter.mpr ⟨List.mem_range.mpr h1, by rw [List.getD_eq_getElem?_getD, h]; rfl⟩
/-- behind the call: the lent slots hold what the arguments hold -/
theorem back_ok {K : PySem.W.Frag} {Z Y H : Hp} {σ σ' ts : St} {s fin us : S} {ms : List Bool} {rs : List R} {vs : List V} (r : Rel K Z Y H (σ' ++ ts ++ σ) (fin ++ us ++ s)) (hl : σ.length = s.length) (hf : σ'.length = fin.length) (hu : ts.length = us.length)
    (keep : ∀ k ∈ ioOf ms, σ'.getD k none = (vs.map some).getD k none) (hv : vs.length = rs.length) (tp : ∀ (j i : Nat), rs[j]? = some (R.top i) → i < σ.length ∧ σ.getD i none = vs[j]?) (hfl : fin.length = vs.length) : Rel K Z Y H (σ ++ ts) (putB ms rs fin s ++ us) := by
  classical
  have at_ := fun i => putB_at (ms := ms) (rs := rs) (fin := fin) (s := s) i
  refine r.re (fun k => if k < σ.length then (if h : ∃ j : Nat, ms[j]? = some true ∧ rs[j]? = some (.top k) ∧ (putB ms rs fin s).getD k .no = fin.getD j .no then some h.choose else some (σ'.length + ts.length + k)) else if k < σ.length + ts.length then some (k - σ.length + σ'.length) else none)
    (by simp [putB_len, hl, hu]) (fun k => ?_) (fun k k' j h h' => ?_)
  · by_cases hk : k < σ.length
    · simp only [if_pos hk]
      by_cases h : ∃ j : Nat, ms[j]? = some true ∧ rs[j]? = some (.top k) ∧ (putB ms rs fin s).getD k .no = fin.getD j .no
      · simp only [dif_pos h]
        obtain ⟨h1, h2, h3⟩ := h.choose_spec
        generalize h.choose = j at h1 h2 h3
        have hlt : j < vs.length := by rw [hv]; exact (List.getElem?_eq_some_iff.mp h2).1
        refine ⟨?_, ?_⟩
        · rw [getD_app_lt (by rw [putB_len]; omega), h3, List.append_assoc, getD_app_lt (by omega)]
        · rw [getD_app_lt hk, (tp _ _ h2).2, List.append_assoc, getD_app_lt (by omega), keep _ (mem_ioOf h1), List.getD_eq_getElem?_getD, List.getElem?_map]
          rw [List.getElem?_eq_getElem hlt]; rfl
      · simp only [dif_neg h]
        refine ⟨?_, ?_⟩
        · rcases at_ k with q | q
          · rw [getD_app_lt (by rw [putB_len]; omega), q, getD_app_ge (by simp; omega)]
            have e : σ'.length + ts.length + k - (fin ++ us).length = k := by simp; omega
            rw [e]
          · exact absurd q h
        · rw [getD_app_lt hk, getD_app_ge (by simp)]
          have e : σ'.length + ts.length + k - (σ' ++ ts).length = k := by simp
          rw [e]
    · simp only [if_neg hk]
      by_cases hk2 : k < σ.length + ts.length
      · simp only [if_pos hk2]
        refine ⟨?_, ?_⟩
        · rw [getD_app_ge (by rw [putB_len]; omega), List.append_assoc, getD_app_ge (by omega), getD_app_lt (by omega), putB_len]
          congr 1; omega
        · rw [getD_app_ge (by omega), List.append_assoc, getD_app_ge (by omega), getD_app_lt (by omega)]
          congr 1; omega
      · simp only [if_neg hk2]
        exact .inl (getD_out (by simp [putB_len]; omega))
  · by_cases hk : k < σ.length
    · simp only [if_pos hk] at h
      by_cases hk' : k' < σ.length
      · simp only [if_pos hk'] at h'
        by_cases q : ∃ j : Nat, ms[j]? = some true ∧ rs[j]? = some (.top k) ∧ (putB ms rs fin s).getD k .no = fin.getD j .no
        · rw [dif_pos q] at h
          have qlt : q.choose < vs.length := by rw [hv]; exact (List.getElem?_eq_some_iff.mp q.choose_spec.2.1).1
          by_cases q' : ∃ j : Nat, ms[j]? = some true ∧ rs[j]? = some (.top k') ∧ (putB ms rs fin s).getD k' .no = fin.getD j .no
          · rw [dif_pos q'] at h'
            have e : q.choose = q'.choose := Option.some.inj (h.trans h'.symm)
            have e1 := q.choose_spec.2.1
            have e2 := q'.choose_spec.2.1
            rw [e, e2] at e1
            cases e1; rfl
          · rw [dif_neg q'] at h'
            have e := Option.some.inj (h.trans h'.symm)
            omega
        · rw [dif_neg q] at h
          by_cases q' : ∃ j : Nat, ms[j]? = some true ∧ rs[j]? = some (.top k') ∧ (putB ms rs fin s).getD k' .no = fin.getD j .no
          · rw [dif_pos q'] at h'
            have qlt : q'.choose < vs.length := by rw [hv]; exact (List.getElem?_eq_some_iff.mp q'.choose_spec.2.1).1
            have e := Option.some.inj (h.trans h'.symm)
            omega
          · rw [dif_neg q'] at h'
            have e := Option.some.inj (h.trans h'.symm)
            omega
      · simp only [if_neg hk'] at h'
        by_cases hk2 : k' < σ.length + ts.length
        · rw [if_pos hk2] at h'
          by_cases q : ∃ j : Nat, ms[j]? = some true ∧ rs[j]? = some (.top k) ∧ (putB ms rs fin s).getD k .no = fin.getD j .no
          · rw [dif_pos q] at h
            have qlt : q.choose < vs.length := by rw [hv]; exact (List.getElem?_eq_some_iff.mp q.choose_spec.2.1).1
            have e := Option.some.inj (h.trans h'.symm)
            omega
          · rw [dif_neg q] at h
            have e := Option.some.inj (h.trans h'.symm)
            omega
        · rw [if_neg hk2] at h'; cases h'
    · simp only [if_neg hk] at h
      by_cases hk2 : k < σ.length + ts.length
      · rw [if_pos hk2] at h
        by_cases hk' : k' < σ.length
        · simp only [if_pos hk'] at h'
          by_cases q : ∃ j : Nat, ms[j]? = some true ∧ rs[j]? = some (.top k') ∧ (putB ms rs fin s).getD k' .no = fin.getD j .no
          · rw [dif_pos q] at h'
            have qlt : q.choose < vs.length := by rw [hv]; exact (List.getElem?_eq_some_iff.mp q.choose_spec.2.1).1
            have e := Option.some.inj (h.trans h'.symm)
            omega
          · rw [dif_neg q] at h'
            have e := Option.some.inj (h.trans h'.symm)
            omega
        · simp only [if_neg hk'] at h'
          by_cases hk2' : k' < σ.length + ts.length
          · rw [if_pos hk2'] at h'
            have e := Option.some.inj (h.trans h'.symm)
            omega
          · rw [if_neg hk2'] at h'; cases h'
      · rw [if_neg hk2] at h; cases h
/-- the call, by the callee's text -/
theorem fCall_ok {sem : FSem} {ms : List Bool} {n : Nat} {σ : St} {H : Hp} {Q : VK} (hn : ms.length = n) (h : liftE X L (fCall sem ms fr) σ H Q) :
    tCallSD (liftSp X.K X.mg (ioOf ms) n sem) [] (fun σ cls d H => L.E cls d σ H) (liftA X L n fr) σ H Q := by
  obtain ⟨Z, Y, s, Xf, Qf, r, k, xo, h, q⟩ := h
  refine ⟨Z, Y, s, Xf, _, r, k, xo, h, fun vs H1 Z1 rs s1 hz rx hrn h1 => ?_⟩
  obtain ⟨Z2, svs, s2, hz2, r2, hls, hlv, hlm, h2⟩ := bindA_ok (us := []) (ds := []) (vs := vs) (by simpa using rx.rel) rx.l1 rfl rx.l2 rx.top h1
  simp only [List.nil_append] at r2
  have hσ : σ.length = s2.length := by rw [hls]; exact rx.l1
  have hts : (vs.map some).length = svs.length := by rw [List.length_map, hlv]
  -- the arguments alone
  have r3 : Rel X.K Z2 Y H1 ([] ++ vs.map some ++ σ) ([] ++ svs ++ s2) := Rel.swap (σa := []) (sa := []) (by simpa using r2) rfl hσ
  simp only [List.nil_append] at r3
  obtain ⟨Y', hy', r4, back, _⟩ := r3.frame hts
  have hvn : vs.length = n := by rw [rx.l2, hrn]
  rw [List.append_nil]
  refine ⟨Z2, Y', svs, _, _, hvn, r4, h2, fun u H' Z' σ' fin r' hz' keep hl' rx' nt hq => ?_, fun n' C H' Z' σ' fin hz' keep hl' r' hx m => ?_⟩
  · have b := back Z' H' _ _ hz' rx'.rel
    have lf : σ'.length = fin.length := rx'.l1
    have b2 := back_ok (ms := ms) (rs := rs) (vs := vs) b hσ lf (by simp) keep rx.l2 rx.top (by rw [← lf, hl', hvn])
    refine q u H' Z' r' _ ((hz.trans hz2).trans hz') ⟨b2, by rw [putB_len]; exact hσ, rfl, fun k i e => ?_⟩ hq
    cases k with
    | zero => exact absurd (by simpa using e) (nt i)
    | succ k => simp at e
  · have b := back Z' H' _ _ hz' r'
    have lf : σ'.length = fin.length := r'.len
    have b2 := back_ok (ts := []) (us := []) (ms := ms) (rs := rs) (vs := vs) (by simpa using b) hσ lf rfl keep rx.l2 rx.top (by rw [← lf, hl', hvn])
    simp only [List.append_nil] at b2
    exact xo n' C Z' H' σ _ ((hz.trans hz2).trans hz') k b2 hx m
variable {CX : CXT} {k : Nat} {f : Addr} {fd : FuncData} {ps : List Str} {x : Str}
theorem pf_call {sem : FSem} {ms : List Bool} (F : FnOk X.prog X.w X.K X.mg X.base CX k f fd ps (liftSp X.K X.mg (ioOf ms) (es.length + 1) sem)) (hr : Room k X.A) (hm : X.mg x = some (.ref f)) (hk : PySem.W.keepIn X.K (.ref f) = true) (hb : Binds X.K fd ps [])
    (hx : ∀ σ, PassesAt CX X σ (fun cls d H => L.E cls d σ H)) (ha : PFA X L (e :: es) fr) (hg : Gl X x := by rfl) (hn : ms.length = es.length + 1 := by rfl) (hdb : (x == ("__debug__" : Str)) = false := by decide) (he : starEach (e :: es) X.env = (false, eval e X.env) :: starEach es X.env := by rfl) (hpl : (backTo pos (starEach es X.env)).any (·.1) = false := by rfl) :
    PF X L (.Call (.Name x p) (e :: es) [] pos) (fCall sem ms fr) := PE_imp (pe_callSD F hr hg hm hk hb .nil hx ha hdb he hpl) fun σ H Q h => fCall_ok hn h
theorem pass0At : ∀ σ, PassesAt (L2.CX X.prog X.w) X σ (fun cls d H => L.in0.E cls d σ H) := fun σ pins H s e s' I c => passL pins σ H s e s' I c
variable {P : Program} {w : World} {K : PySem.W.Frag} {mg : Str → Option Value} {base : Heap}
theorem okStart {X : Cx} {N ps : List Str} {io : List Nat} {bd : FS} {vs : List V} {H : Hp} {Q : VK} {E : XK} (hnp : ps.length ≤ N.length) (h : liftSp X.K X.mg io ps.length (semOf ps.length N.length bd) vs H Q E) :
    liftS X ⟨fun cls d _ H => E cls d H, io, L2.start N vs⟩ bd { nx := fun _ H' => Q .non H', rt := Q } (L2.start N vs) H := by
  obtain ⟨Z, Y, svs, Xf, Qf, hl, r, hsem, hq, hx⟩ := h
  have hs : svs.length = ps.length := by have := r.len; rw [List.length_map] at this; omega
  have r0 : Rel X.K Z Y H (L2.start N vs) (svs ++ List.replicate (N.length - ps.length) .no) := by
    unfold L2.start
    rw [hl]
    generalize N.length - ps.length = n
    refine r.re (fun k => if k < svs.length then some k else none) (by simp [hs, hl]) (fun k => ?_) (fun k k' j h h' => ?_)
    · by_cases h : k < svs.length
      · simp only [if_pos h]
        exact ⟨by rw [getD_app_lt h], by rw [getD_app_lt (by simp; omega)]⟩
      · simp only [if_neg h]
        refine .inl ?_
        rw [getD_app_ge (by omega), List.getD_eq_getElem?_getD, List.getElem?_replicate]
        split <;> rfl
    · by_cases a : k < svs.length
      · by_cases b : k' < svs.length
        · rw [if_pos a] at h; rw [if_pos b] at h'; cases h; cases h'; rfl
        · rw [if_neg b] at h'; cases h'
      · rw [if_neg a] at h; cases h
  have tk : ∀ {Z' H' : Hp} {σ' ts : St} {s' us : S}, Rel X.K Z' Y H' (σ' ++ ts) (s' ++ us) → σ'.length = s'.length → Rel X.K Z' Y H' (σ'.take ps.length ++ ts) (s'.take ps.length ++ us) := by
    intro Z' H' σ' ts s' us r' hl'
    have hl2 := r'.len
    simp only [List.length_append] at hl2
    have g1 : ∀ j, j < (σ'.take ps.length).length → (σ'.take ps.length).getD j none = σ'.getD j none := fun j h => by
      rw [List.getD_eq_getElem?_getD, List.getD_eq_getElem?_getD, List.getElem?_take_of_lt (by rw [List.length_take] at h; omega)]
    have g2 : ∀ j, j < (s'.take ps.length).length → (s'.take ps.length).getD j .no = s'.getD j .no := fun j h => by
      rw [List.getD_eq_getElem?_getD, List.getD_eq_getElem?_getD, List.getElem?_take_of_lt (by rw [List.length_take] at h; omega)]
    have hm : (σ'.take ps.length).length = (s'.take ps.length).length := by rw [List.length_take, List.length_take, hl']
    generalize hA : σ'.take ps.length = σt at g1 hm
    generalize hB : s'.take ps.length = st' at g2 hm
    have hle : σt.length ≤ σ'.length := by rw [← hA, List.length_take]; omega
    refine r'.re (fun k => if k < σt.length then some k else if k < σt.length + ts.length then some (k - σt.length + σ'.length) else none) (by simp [hm]; omega) (fun k => ?_) (fun k k' j h h' => ?_)
    · by_cases h1 : k < σt.length
      · simp only [if_pos h1]
        exact ⟨by rw [getD_app_lt (by omega), getD_app_lt (by omega), g2 k (by omega)], by rw [getD_app_lt h1, getD_app_lt (by omega), g1 k h1]⟩
      · simp only [if_neg h1]
        by_cases h2 : k < σt.length + ts.length
        · simp only [if_pos h2]
          refine ⟨?_, ?_⟩
          · rw [getD_app_ge (by omega), getD_app_ge (by omega)]; congr 1; omega
          · rw [getD_app_ge (by omega), getD_app_ge (by omega)]; congr 1; omega
        · simp only [if_neg h2]
          exact .inl (getD_out (by simp; omega))
    · split at h <;> split at h' <;> (try split at h) <;> (try split at h') <;> (try cases h) <;> (try cases h') <;> (try injection h with h) <;> (try injection h' with h') <;> omega
  have tkl : ∀ {Z' H' : Hp} {σ' : St} {s' : S}, Rel X.K Z' Y H' σ' s' → Rel X.K Z' Y H' (σ'.take ps.length) (s'.take ps.length) := fun {Z' H' σ' s'} r' => by
    have := tk (ts := []) (us := []) (by simpa using r') r'.len
    simpa using this
  -- the lent parameters stay in their slots
  have kp : ∀ {σ' : St}, Lv.keeps ⟨fun cls d _ H => E cls d H, io, L2.start N vs⟩ σ' → ∀ k ∈ io, (σ'.take ps.length).getD k none = (vs.map some).getD k none := by
    intro σ' kk k hk
    by_cases hkp : k < ps.length
    · have q := kk.2 k hk
      have q : σ'.getD k none = (L2.start N vs).getD k none := q
      rw [List.getD_eq_getElem?_getD, List.getElem?_take_of_lt hkp, ← List.getD_eq_getElem?_getD, q]
      unfold L2.start
      rw [getD_app_lt (by simp; omega)]
    · rw [getD_out (by rw [List.length_take]; omega), getD_out (by rw [List.length_map]; omega)]
  have stl : (L2.start N vs).length = N.length := by unfold L2.start; simp; omega
  have tl : ∀ {σ' : St}, Lv.keeps ⟨fun cls d _ H => E cls d H, io, L2.start N vs⟩ σ' → (σ'.take ps.length).length = ps.length := fun {σ'} h => by
    have := h.1
    have : σ'.length = (L2.start N vs).length := this
    rw [List.length_take]; omega
  refine ⟨Z, Y, _, _, r0, ⟨rfl, fun _ _ => rfl⟩, hsem, fun σ' H' Z' s' hz kk r' h' => ?_, fun v σ' H' Z' r0' s' hz kk rx h' => ?_, fun _ _ _ _ _ _ _ h' => h'.elim, fun _ _ _ _ _ _ _ h' => h'.elim, fun n C Z' H' σ' s' hz kk r' h' m => ?_⟩
  · exact hq .non H' Z' (σ'.take ps.length) (s'.take ps.length) (.d .none) hz (kp kk) (tl kk) (.d (tkl r') .non) (fun i e => nomatch e) h'
  · have h' : outR r0' s' fun r' s'' => Qf r' (s''.take ps.length) := h'
    have fin : ∀ {s2 : S} {r2 : R}, (∀ i, r2 ≠ .top i) → Rel X.K Z' Y H' (σ' ++ [some v]) (s2 ++ [svR r2]) → σ'.length = s2.length → Qf r2 (s2.take ps.length) → Q v H' := fun {s2 r2} nt rl hl2 hq2 =>
      hq v H' Z' (σ'.take ps.length) (s2.take ps.length) r2 hz (kp kk) (tl kk) ⟨tk rl hl2, by rw [List.length_take, List.length_take, hl2], rfl, .one fun i e => absurd e (nt i)⟩ nt hq2
    cases r0' with
    | d x => exact fin (fun i e => by cases e) rx.rel rx.l1 h'
    | own w => exact fin (fun i e => by cases e) rx.rel rx.l1 h'
    | top i =>
      obtain ⟨hi, hv⟩ := rx.top 0 i rfl
      have his : i < s'.length := by rw [← rx.l1]; exact hi
      refine fin (s2 := s'.set i .no) (r2 := .own (s'.getD i .no)) (fun i e => by cases e) ?_ (by rw [List.length_set]; exact rx.l1) h'
      -- what the slot holds is handed out
      refine rx.rel.re (fun k => if k = σ'.length then some i else if k = i then none else some k) (by have := rx.l1; simp [this]) (fun k => ?_) (fun k k' j h h' => ?_)
      · by_cases hk : k = σ'.length
        · simp only [if_pos hk]
          refine ⟨?_, ?_⟩
          · rw [hk, getD_app_ge (by rw [List.length_set, rx.l1]; exact Nat.le_refl _), List.length_set, rx.l1, Nat.sub_self, getD_app_lt his]; rfl
          · rw [hk, getD_app_ge (Nat.le_refl _), Nat.sub_self, getD_app_lt hi, hv]; rfl
        · simp only [if_neg hk]
          by_cases h0 : k = i
          · simp only [if_pos h0]
            exact .inl (by rw [h0, getD_app_lt (by rw [List.length_set]; exact his), getD_set_self his])
          · simp only [if_neg h0]
            refine ⟨?_, rfl⟩
            have hl1 := rx.l1
            by_cases h1 : k < s'.length
            · rw [getD_app_lt (by rw [List.length_set]; exact h1), getD_app_lt h1, getD_set_ne (Ne.symm h0)]
            · rw [getD_out (by simp; omega), getD_out (by simp; omega)]
      · split at h <;> split at h' <;> (try split at h) <;> (try split at h') <;> (try cases h) <;> (try cases h') <;> (try injection h with h) <;> (try injection h' with h') <;> omega
  · exact hx n C H' Z' (σ'.take ps.length) (s'.take ps.length) hz (kp kk) (tl kk) (tkl r') h' m
theorem okF {q : Str} {st : Stmt} {N : List Str} {io : List Nat} {bd : FS} (F : Fun K x q st f fd) (sco : FnScope N ps (defScope st)) (hnp : ps.length ≤ N.length)
    (hb : ∀ (cdv : Value) (A : Around) (outer : List Env) (s : Shared) (H : Hp) (vs : List V) (E : XK), Room k (A.deeper (envOfC q (defScope st) s.heap.objs.size f cdv)) →
      PFSs (cxOf (L2.CX P w) P w K mg base N q (defScope st) f cdv A outer s H E) ⟨fun cls d _ H => E cls d H, io, L2.start N vs⟩ (defBody st) bd) :
    FnOk P w K mg base (L2.CX P w) (k + 1) f fd ps (liftSp K mg io ps.length (semOf ps.length N.length bd)) := by
  refine F.okX sco (fun vs H Q E ⟨_, _, _, _, _, hl, _⟩ => hl) fun cdv A outer s H vs Q E hr h => ⟨_, hb cdv A outer s H vs E hr, okStart hnp h⟩
end
end Hs
namespace Hs
open PySem
/-- factors whose product may be had; a divisor -/
def okM (i j : Int) : Prop := i.natAbs.log2 + j.natAbs.log2 < 1000000
def okD (j : Int) : Prop := 0 < j ∧ j.natAbs.log2 < 9000
def opAdd : V2 := fun d e Q => match d, e with
  | .int i, .int j => Q (.d (.int (i + j)))
  | .str x, .str y => x.length + y.length ≤ sizeLine ∧ Q (.d (.str (x ++ y)))
  | .list xs, .list ys => xs.length + ys.length ≤ sizeLine ∧ Q (.own (.l (xs ++ ys)))
  | .tuple xs, .tuple ys => xs.length + ys.length ≤ sizeLine ∧ Q (.d (.tuple (xs ++ ys)))
  | _, _ => False
def opSub : V2 := fun d e Q => match d, e with
  | .int i, .int j => Q (.d (.int (i - j)))
  | _, _ => False
def opMul : V2 := fun d e Q => match d, e with
  | .int i, .int j => okM i j ∧ Q (.d (.int (i * j)))
  | .list xs, .int k => -(2 ^ 63) ≤ k ∧ k < 2 ^ 63 ∧ xs.length * k.toNat ≤ sizeLine ∧ Q (.own (.l (List.replicate k.toNat xs).flatten))
  | .tuple xs, .int k => xs ≠ [] ∧ 0 ≤ k ∧ k ≤ 1000 ∧ xs.length ≤ 1000 ∧ Q (.d (.tuple (List.replicate k.toNat xs).flatten))
  | _, _ => False
def opFdiv : V2 := fun d e Q => match d, e with
  | .int i, .int j => okD j ∧ Q (.d (.int (i / j)))
  | _, _ => False
def opMod : V2 := fun d e Q => match d, e with
  | .int i, .int j => 0 < j ∧ Q (.d (.int (i % j)))
  | _, _ => False
def opPow : V2 := fun d e Q => match d, e with
  | .int i, .int j => 0 ≤ j ∧ j ≤ 1000000 ∧ i.natAbs < 2 ^ 64 ∧ Q (.d (.int (i ^ j.toNat)))
  | _, _ => False
def uNeg : V1 := fun d Q => match d with
  | .int i => Q (.d (.int (-i)))
  | _ => False
/-- what is compared: the text's own list as a list -/
def unlit : D → D
  | .dict [(.none, .list xs)] => .list xs
  | d => d
def cEq : V2 := fun d e Q => (∃ x y, d = .str x ∧ e = .str y ∧ Q (.d (.bool (decide (x = y))))) ∨ (SeqAt.shaped (unlit d) = true ∧ SeqAt.shaped (unlit e) = true ∧ Q (.d (.bool (PyData.eqv (unlit d) (unlit e)))))
def cNe : V2 := fun d e Q => (∃ x y, d = .str x ∧ e = .str y ∧ Q (.d (.bool (!decide (x = y))))) ∨ (SeqAt.shaped (unlit d) = true ∧ SeqAt.shaped (unlit e) = true ∧ Q (.d (.bool (!PyData.eqv (unlit d) (unlit e)))))
/-- xs[::-1] -/
def revD : V1 := fun d Q => match d with
  | .list xs => Q (.own (.l xs.reverse))
  | .tuple xs => Q (.d (.tuple xs.reverse))
  | _ => False
def intsOf : List D → Option (List Int)
  | [] => some []
  | .int i :: r => (intsOf r).map (i :: ·)
  | _ => none
def cLt : V2 := fun d e Q => match d, e with
  | .int i, .int j => Q (.d (.bool (decide (i < j))))
  | .tuple xs, .tuple ys => match intsOf xs, intsOf ys with
    | some ns, some ms => Q (.d (.bool (HT.lexLt ns ms)))
    | _, _ => False
  | _, _ => False
def cLe : V2 := fun d e Q => match d, e with
  | .int i, .int j => Q (.d (.bool (decide (i ≤ j))))
  | _, _ => False
def cGt : V2 := fun d e Q => match d, e with
  | .int i, .int j => Q (.d (.bool (decide (j < i))))
  | _, _ => False
def cGe : V2 := fun d e Q => match d, e with
  | .int i, .int j => Q (.d (.bool (decide (j ≤ i))))
  | _, _ => False
def cIn : V2 := fun d e Q => match e with
  | .list xs => SeqAt.shaped d = true ∧ SeqAt.shaped (.list xs) = true ∧ Q (.d (.bool (xs.any fun z => PyData.eqv z d)))
  | .tuple xs => SeqAt.shaped d = true ∧ SeqAt.shaped (.tuple xs) = true ∧ Q (.d (.bool (xs.any fun z => PyData.eqv z d)))
  | _ => False
def cNotIn : V2 := fun d e Q => match e with
  | .list xs => SeqAt.shaped d = true ∧ SeqAt.shaped (.list xs) = true ∧ Q (.d (.bool (!xs.any fun z => PyData.eqv z d)))
  | .tuple xs => SeqAt.shaped d = true ∧ SeqAt.shaped (.tuple xs) = true ∧ Q (.d (.bool (!xs.any fun z => PyData.eqv z d)))
  | _ => False
def isNone : D → Bool
  | .none => true
  | _ => false
def pairOf : D → Option (Int × Int)
  | .tuple [.int i, .int j] => some (i, j)
  | _ => none
def pairsOf : List D → Option (List (Int × Int))
  | [] => some []
  | x :: r => match pairOf x, pairsOf r with
    | some p, some ps => some (p :: ps)
    | _, _ => none
abbrev pairD (p : Int × Int) : D := .tuple [.int p.1, .int p.2]
def ltPr (p q : Int × Int) : Bool := decide (p.1 < q.1) || (p.1 == q.1 && decide (p.2 < q.2))
/-- sorted: of ints, of pairs of ints (a list) -/
def bSortI : VN := fun ds Q => match ds with
  | [.list xs] => match intsOf xs with
    | some ns => ∀ ms : List Int, ms.Perm ns → ms.Pairwise (· ≤ ·) → Q (.own (.l (ms.map .int)))
    | none => False
  | _ => False
def bSortP : VN := fun ds Q => match ds with
  | [.list xs] => match pairsOf xs with
    | some ps => ∀ qs : List (Int × Int), qs.Perm ps → qs.Pairwise (fun p q => ltPr q p = false) → Q (.own (.l (qs.map pairD)))
    | none => False
  | _ => False
def cIs : V2 := fun d e Q => match d, e with
  | d, .none => Q (.d (.bool (isNone d)))
  | .bool a, .bool b => Q (.d (.bool (decide (a = b))))
  | _, _ => False
def cIsNot : V2 := fun d e Q => match d, e with
  | d, .none => Q (.d (.bool (!isNone d)))
  | .bool a, .bool b => Q (.d (.bool (!decide (a = b))))
  | _, _ => False
def ixD : V2 := fun d e Q => match d, e with
  | .list xs, .int i => match L2.atI xs i with
    | some x => Q (.d x)
    | none => False
  | .tuple xs, .int i => match L2.atI xs i with
    | some x => Q (.d x)
    | none => False
  | .str z, .int i => z.length ≤ sizeLine ∧ match L2.atI z.cps.toList i with
    | some c => Q (.d (.str ⟨#[c]⟩))
    | none => False
  | .dict [(.none, .list xs)], .int i => match L2.atI xs i with
    | some x => Q (.d x)
    | none => False
  | _, _ => False
def slD (d : D) (lo hi : Option Int) (Q : R → Prop) : Prop := match d with
  | .list xs => Q (.own (.l (cutL xs lo hi)))
  | .tuple xs => Q (.d (.tuple (cutL xs lo hi)))
  | _ => False
where cutL (xs : List D) (lo hi : Option Int) : List D := (xs.drop (HT.sIx xs.length 0 lo)).take (HT.sIx xs.length xs.length hi - HT.sIx xs.length 0 lo)
def bLen : VN := fun ds Q => match ds with
  | [.list xs] => Q (.d (.int (xs.length : Nat)))
  | [.tuple xs] => Q (.d (.int (xs.length : Nat)))
  | [.str x] => x.length ≤ sizeLine ∧ Q (.d (.int (x.length : Nat)))
  | [.dict [(.none, .list xs)]] => Q (.d (.int (xs.length : Nat)))
  | _ => False
def bAbs : VN := fun ds Q => match ds with
  | [.int i] => Q (.d (.int (if i < 0 then -i else i)))
  | _ => False
def bMax2 : VN := fun ds Q => match ds with
  | [.int i, .int j] => Q (.d (.int (if j > i then j else i)))
  | _ => False
def bMin2 : VN := fun ds Q => match ds with
  | [.int i, .int j] => Q (.d (.int (if j < i then j else i)))
  | _ => False
def bInt : VN := fun ds Q => match ds with
  | [.int i] => Q (.d (.int i))
  | [.bool b] => Q (.d (.int (if b then 1 else 0)))
  | _ => False
def bTuple : VN := fun ds Q => match ds with
  | [.list xs] => Q (.d (.tuple xs))
  | [.tuple xs] => Q (.d (.tuple xs))
  | _ => False
def bList : VN := fun ds Q => match ds with
  | [.list xs] => Q (.own (.l xs))
  | [.tuple xs] => Q (.own (.l xs))
  | _ => False
def boolsOf : List D → Option (List Bool)
  | [] => some []
  | .bool i :: r => (boolsOf r).map (i :: ·)
  | _ => none
def bAll : VN := fun ds Q => match ds with
  | [.list xs] => match boolsOf xs with
    | some bs => Q (.d (.bool (bs.all id)))
    | none => False
  | _ => False
def bAny : VN := fun ds Q => match ds with
  | [.list xs] => match boolsOf xs with
    | some bs => Q (.d (.bool (bs.any id)))
    | none => False
  | _ => False
def bMaxL : VN := fun ds Q => match ds with
  | [.list xs] => match intsOf xs with
    | some ns => 0 < ns.length ∧ ∀ m, m ∈ ns → (∀ y, y ∈ ns → y ≤ m) → Q (.d (.int m))
    | none => False
  | [.tuple xs] => match intsOf xs with
    | some ns => 0 < ns.length ∧ ∀ m, m ∈ ns → (∀ y, y ∈ ns → y ≤ m) → Q (.d (.int m))
    | none => False
  | _ => False
def isTy : String → D → Bool
  | "int", .int _ => true
  | "int", .bool _ => true
  | "bool", .bool _ => true
  | "tuple", .tuple _ => true
  | "list", .list _ => true
  | "str", .str _ => true
  | "dict", .dict _ => true
  | _, _ => false
def isLit : D → Bool
  | .dict ((.none, .none) :: _) => false
  | .dict ((.none, _) :: _) => true
  | _ => false
def bIs (T : String) : V1 := fun d Q => isLit d = false ∧ Q (.d (.bool (isTy T d)))
end Hs
namespace Hs
open PySem PySem.Spec PyProof.Rows L2
section
variable {X : Cx} {L : Lv} {e a b c : Expr} {es : List Expr} {fa fb fc : FE} {ft fu : FT} {fr : FA} {pos p : Pos}
variable {K : PySem.W.Frag} {Z H : Hp}
theorem add_lists {pins : List (Addr × Obj)} {s : Shared} {σ : St} {H : Hp} {l b : Addr} {xs zs : List V} {Q : VK} (I : Inv X pins σ H s) (hH : Rd H l (.lst xs)) (hB : Rd H b (.lst zs)) (hz : xs.length + zs.length ≤ sizeLine) (q : ∀ p, H p = none → Q (.ref p) (upd H p (.lst (xs ++ zs)))) :
    wpAny (model X.prog X.w) X.A (binaryOp .Add (.ref l) (.ref b)) (EP X pins σ Q) X.xe s := by
  obtain ⟨hl, its, n, r, e⟩ := hH.ok I.hok
  obtain ⟨hl2, its2, n2, r2, e2⟩ := hB.ok I.hok
  have h1 := r.length
  have h2 := r2.length
  refine PySem.P.add_list e e2 ?g ?z
  case z => simp only [List.size_toArray]; omega
  have ea : its.toArray ++ its2.toArray = (its ++ its2).toArray := by simp
  rw [ea]
  exact ⟨.ref _, _, I.lnew (t' := s.toks) (r.append r2) (by rw [List.length_append]; omega), rfl, q _ I.fresh⟩
theorem fop_add : OpR X (binaryOp .Add) (rF2 X.K opAdd) := by
  intro pins s σ H x y v u Q I rx ry ⟨Z, d, e, Qf, hz, hd, he, g, q⟩
  unfold opAdd at g
  split at g
  · cases hd.int; cases he.int
    exact op_add pins s σ H _ _ v u Q I rx ry ⟨_, _, rfl, rfl, q _ H Z _ (.d hz (.int _)) g⟩
  · cases hd.str; cases he.str
    exact op_add_str pins s σ H _ _ v u Q I rx ry ⟨_, _, rfl, rfl, g.1, q _ H Z _ (.d hz (.str _)) g.2⟩
  · obtain ⟨p, vs, rfl, h1, h2, h3⟩ := hd.list hz
    obtain ⟨p', vs', rfl, h1', h2', h3'⟩ := he.list hz
    cases rx; cases ry
    have l1 := h3.length
    have l2 := h3'.length
    exact add_lists I h1 h1' (by omega) fun n hn => q _ _ Z _ (.lst hz hn (by rw [List.length_append]; omega) (h3.append h3')) g.2
  · obtain ⟨p, vs, rfl, h1, h2, h3⟩ := hd.tuple hz
    obtain ⟨p', vs', rfl, h1', h2', h3'⟩ := he.tuple hz
    have l1 := h3.length
    have l2 := h3'.length
    refine op_catA pins s σ H _ _ v u Q I rx ry ⟨p, p', vs, vs', rfl, rfl, h1, h1', by omega, fun e => ?_, fun e1 e2 => ?_, fun e1 e2 n hn => ?_⟩
    · subst e
      cases h3
      have ez : Rp X.K Z (.ref p') (.tuple _) := RpV.tupZ he
      exact q _ H Z _ (.d hz ez) g.2
    · subst e2
      cases h3'
      have ez : Rp X.K Z (.ref p) (.tuple _) := RpV.tupZ hd
      rw [List.append_nil] at g
      exact q _ H Z _ (.d hz ez) g.2
    · exact q _ _ _ _ (.tup hz hn (by rw [List.length_append]; omega) (h3.append h3')) g.2
  · exact g.elim
where
  RpV.tupZ {K : PySem.W.Frag} {Z H : Hp} {v : V} {xs : List D} (r : RpV K Z H v (.tuple xs)) : Rp K Z v (.tuple xs) := by
    rcases r with r | ⟨p, vs, xs', rfl, e2, h, z, a⟩ | ⟨p, kvs, rfl, e2, h⟩
    · exact r
    · cases e2
    · cases e2
theorem fop_sub : OpR X (binaryOp .Sub) (rF2 X.K opSub) := by
  intro pins s σ H x y v u Q I rx ry ⟨Z, d, e, Qf, hz, hd, he, g, q⟩
  unfold opSub at g
  split at g
  · cases hd.int; cases he.int
    exact op_sub pins s σ H _ _ v u Q I rx ry ⟨_, _, rfl, rfl, q _ H Z _ (.d hz (.int _)) g⟩
  · exact g.elim
theorem rep_list {pins : List (Addr × Obj)} {s : Shared} {σ : St} {H : Hp} {l : Addr} {k : Int} {t : Tok} {xs : List V} {Q : VK} (I : Inv X pins σ H s) (hH : Rd H l (.lst xs)) (h1 : -(2 ^ 63) ≤ k) (h2 : k < 2 ^ 63) (hz : xs.length * k.toNat ≤ sizeLine) (q : ∀ p, H p = none → Q (.ref p) (upd H p (.lst (List.replicate k.toNat xs).flatten))) :
    wpAny (model X.prog X.w) X.A (binaryOp .Mult (.ref l) (.int k t)) (EP X pins σ Q) X.xe s := by
  obtain ⟨_, its, n, r, e⟩ := hH.ok I.hok
  have hl := r.length
  have hlen : its.toArray.size * k.toNat ≤ sizeLine := by rw [List.size_toArray, ← hl]; exact hz
  have hcap : ¬ its.toArray.size * k.toNat > (2 ^ 63 - 1) / 8 := by
    have : (sizeLine : Nat) ≤ (2 ^ 63 - 1) / 8 := by decide
    omega
  have hfit : ¬ (!Builtin.List.listFitsIndex k) = true := by
    rw [fitsIndex_both h1 h2]
    exact Bool.false_ne_true
  have hlong : ¬ Builtin.List.listTooLong (its.toArray.size * k.toNat) = true := by
    rw [notLongL hlen]
    exact Bool.false_ne_true
  have hnew : List.foldl (fun x1 x2 => x1 ++ x2) #[] (List.replicate (if its.toArray.isEmpty = true then 0 else k.toNat) its.toArray) = (List.replicate k.toNat its).flatten.toArray := by
    have f0 : ∀ m : Nat, List.foldl (fun x1 x2 => x1 ++ x2) #[] (List.replicate m its.toArray) = (List.replicate m its).flatten.toArray := fun m => by
      have := foldl_rep its m []
      rw [List.nil_append] at this
      exact this
    rw [f0]
    cases its with
    | nil => simp
    | cons a r' => rw [if_neg (by simp)]
  refine wpAny_binaryOp_repeat_ref (T := "list") (U := "int") (by decide) ⟨_, e, rfl⟩ (fun s' => typeIs_int s' k t) noFill_list_mul F.fills_int_mul F.slot_int_rmul repeat_list F.slot_int_index.lookup
    (call_meets F.slot_int_rmul (typeIs_int s k t) F.entry_int_rmul (F.args_int_rmul_2 _ _) (int___rmul___int_list k t l its.toArray n)
      ⟨e, rfl, ⟨_, e, rfl⟩, call_meets F.slot_list_mul ⟨_, e, rfl⟩ F.entry_list_mul (F.args_list_mul_2 _ _) (AutoListH.list___mul___list_int_3 l its.toArray n k t hfit hcap hlong) ⟨e, ?_⟩⟩)
  rw [hnew]
  exact ⟨.ref _, _, I.lnew (t' := s.toks) (r.rep k.toNat) (by rw [PyProof.Rows.lm_len_rep_flat, Nat.mul_comm]; exact hz), rfl, q _ I.fresh⟩
theorem tmul_one (l : Addr) (items : Array Value) (n : Nat) (dd : Option Addr) (sl : Array (Option Value)) (u : Tok) :
    Meets (Builtin.«tuple.__mul__» ⟨[.ref l, .int 1 u], []⟩) (fun _ R s => s.heap.get? l = some { cls := .type "tuple", dict := dd, data := .seq items n, slots := sl } ∧ R (.ok (.ret (Value.ref l))) s) :=
  .of_wp fun prog w A R s h => by
    obtain ⟨hp, g, d, tk, os⟩ := s
    obtain ⟨hl, h⟩ := h
    have f1 := AutoSeq1.idx_int
    wp_walk using wpAny_loadPart' hl
    repeat (first
      | (refine wpAny_ite_true (by simp) ?_; wp_walk using wpAny_loadPart' hl)
      | (refine wpAny_ite_false (by simp) ?_; wp_walk using wpAny_loadPart' hl))
    exact ⟨_, rfl, h⟩
theorem tmul_none (l : Addr) (items : Array Value) (n : Nat) (dd : Option Addr) (sl : Array (Option Value)) (u : Tok) (hne : items.isEmpty = false) :
    Meets (Builtin.«tuple.__mul__» ⟨[.ref l, .int 0 u], []⟩) (fun _ R s => s.heap.get? l = some { cls := .type "tuple", dict := dd, data := .seq items n, slots := sl } ∧
      R (.ok (.ret (Value.ref s.heap.objs.size))) { s with heap := s.heap.push { cls := Value.type "tuple", data := Data.seq #[] }, toks := s.toks }) :=
  .of_wp fun prog w A R s h => by
    obtain ⟨hp, g, d, tk, os⟩ := s
    obtain ⟨hl, h⟩ := h
    have f1 := AutoSeq1.idx_int
    have z0 : (#[] : Array Value).size ≤ sizeLine := Nat.zero_le _
    wp_walk using wpAny_loadPart' hl
    repeat (first
      | (refine wpAny_ite_true (by simp [hne]) ?_; wp_walk using wpAny_loadPart' hl)
      | (refine wpAny_ite_false (by simp [hne]) ?_; wp_walk using wpAny_loadPart' hl))
    exact ⟨_, rfl, h⟩
theorem rep_tuple {pins : List (Addr × Obj)} {s : Shared} {σ : St} {H : Hp} {l : Addr} {k : Int} {t : Tok} {xs : List V} {Q : VK} (I : Inv X pins σ H s) (hT : SqT X.K H l xs) (hne : xs ≠ []) (hk : k = 0 ∨ k = 1) (q1 : k = 1 → Q (.ref l) H) (q0 : k = 0 → ∀ p, H p = none → Q (.ref p) (upd H p (.tup []))) :
    wpAny (model X.prog X.w) X.A (binaryOp .Mult (.ref l) (.int k t)) (EP X pins σ Q) X.xe s := by
  obtain ⟨its, r, ⟨⟨cls, dd, data, sl⟩, ho, hc, n, hd⟩, hs⟩ := I.tuple hT
  simp only at hc hd
  subst hc hd
  have full : its.toArray.isEmpty = false := by
    cases r with
    | nil => exact absurd rfl hne
    | cons _ _ => rfl
  refine wpAny_binaryOp_repeat_ref (T := "tuple") (U := "int") (by decide) ⟨_, ho, rfl⟩ (fun s' => typeIs_int s' k t) noFill_tuple_mul F.fills_int_mul F.slot_int_rmul repeat_tuple F.slot_int_index.lookup ?_
  refine call_meets F.slot_int_rmul (typeIs_int s k t) F.entry_int_rmul (F.args_int_rmul_2 _ _) (int_rmul_tuple k t l its.toArray n dd sl) ⟨ho, rfl, ⟨_, ho, rfl⟩, ?_⟩
  rcases hk with rfl | rfl
  · refine call_meets F.slot_tuple_mul ⟨_, ho, rfl⟩ F.entry_tuple_mul (F.args_tuple_mul_2 _ _) (tmul_none l its.toArray n dd sl t full) ⟨ho, ?_⟩
    exact ⟨.ref s.heap.objs.size, _, I.laid (t' := s.toks) (o := .tup []) (fun b ob q => Heap.get?_push_of_some _ q) (Nat.le_refl _) ⟨Nat.zero_le _, [], .nil, IsTup.new _ _⟩, rfl, q0 rfl _ (I.hok.fresh (Nat.le_refl _))⟩
  · refine call_meets F.slot_tuple_mul ⟨_, ho, rfl⟩ F.entry_tuple_mul (F.args_tuple_mul_2 _ _) (tmul_one l its.toArray n dd sl t) ⟨ho, ?_⟩
    exact ⟨.ref l, H, I, rfl, q1 rfl⟩
theorem fop_mul : OpR X (binaryOp .Mult) (rF2 X.K opMul) := by
  intro pins s σ H x y v u Q I rx ry ⟨Z, d, e, Qf, hz, hd, he, g, q⟩
  unfold opMul at g
  split at g
  · cases hd.int; cases he.int
    exact op_mulW pins s σ H _ _ v u Q I rx ry ⟨_, _, rfl, rfl, g.1, q _ H Z _ (.d hz (.int _)) g.2⟩
  · obtain ⟨p, vs, rfl, h1, h2, h3⟩ := hd.list hz
    cases he.int
    cases rx
    obtain ⟨t, rfl⟩ := ry
    have l1 := h3.length
    have rr : ∀ n : Nat, RpAll X.K Z (List.replicate n vs).flatten (List.replicate n _).flatten := fun n => by
      induction n with
      | zero => exact .nil
      | succ n ih => rw [List.replicate_succ, List.flatten_cons, List.replicate_succ, List.flatten_cons]; exact h3.append ih
    refine rep_list I h1 g.1 g.2.1 (by rw [l1]; exact g.2.2.1) fun n hn => q _ _ Z _ (.lst hz hn ?_ (rr _)) g.2.2.2
    rw [(rr _).length, List.length_flatten, List.map_replicate, List.sum_replicate_nat, Nat.mul_comm]
    exact g.2.2.1
  · obtain ⟨g1, g2, g3, g4, g5⟩ := g
    obtain ⟨p, vs, rfl, h1, h2, h3⟩ := hd.tuple hz
    have ez : Rp X.K Z (.ref p) (.tuple _) := fop_add.RpV.tupZ hd
    cases he.int
    have l1 := h3.length
    have rr : ∀ n : Nat, RpAll X.K Z (List.replicate n vs).flatten (List.replicate n _).flatten := fun n => by
      induction n with
      | zero => exact .nil
      | succ n ih => rw [List.replicate_succ, List.flatten_cons, List.replicate_succ, List.flatten_cons]; exact h3.append ih
    have hne : vs ≠ [] := fun e => g1 (List.eq_nil_of_length_eq_zero (by rw [← l1, e]; rfl))
    rename_i k
    by_cases hk : k = 0 ∨ k = 1
    · obtain ⟨t, rfl⟩ := ry
      cases rx
      refine rep_tuple I h1 hne hk (fun e => ?_) fun e n hn => ?_
      · subst e
        rw [show (List.replicate (1 : Int).toNat _).flatten = _ from List.append_nil _] at g5
        exact q _ H Z _ (.d hz ez) g5
      · subst e
        exact q _ _ _ _ (.tup hz hn (Nat.zero_le _) .nil) g5
    · refine op_repT pins s σ H _ _ v u Q I rx ry ⟨p, k, vs, rfl, rfl, h1, hne, by omega, g3, by omega, fun n hn => ?_⟩
      refine q _ _ _ _ (.tup hz hn ?_ (rr _)) g5
      rw [(rr _).length, List.length_flatten, List.map_replicate, List.sum_replicate_nat]
      show _ ≤ 16777216
      have a1 : k.toNat * _ ≤ 1000 * 1000 := Nat.mul_le_mul (by omega) g4
      omega
  · exact g.elim
theorem fop_fdiv : OpR X (binaryOp .FloorDiv) (rF2 X.K opFdiv) := by
  intro pins s σ H x y v u Q I rx ry ⟨Z, d, e, Qf, hz, hd, he, g, q⟩
  unfold opFdiv at g
  split at g
  · cases hd.int; cases he.int
    exact op_fdivW pins s σ H _ _ v u Q I rx ry ⟨_, _, rfl, rfl, g.1, q _ H Z _ (.d hz (.int _)) g.2⟩
  · exact g.elim
theorem fop_mod : OpR X (binaryOp .Mod) (rF2 X.K opMod) := by
  intro pins s σ H x y v u Q I rx ry ⟨Z, d, e, Qf, hz, hd, he, g, q⟩
  unfold opMod at g
  split at g
  · cases hd.int; cases he.int
    refine op_modN pins s σ H _ _ v u Q I rx ry ⟨_, _, rfl, rfl, by have := g.1; omega, ?_⟩
    have g1 := g.1
    show Q (.int (Int.fmod _ _)) H
    rw [Int.fmod_eq_emod_of_nonneg _ (by omega)]
    exact q _ H Z _ (.d hz (.int _)) g.2
  · exact g.elim
theorem fop_pow : OpR X (binaryOp .Pow) (rF2 X.K opPow) := by
  intro pins s σ H x y v u Q I rx ry ⟨Z, d, e, Qf, hz, hd, he, g, q⟩
  unfold opPow at g
  split at g
  · cases hd.int; cases he.int
    exact op_pow pins s σ H _ _ v u Q I rx ry ⟨_, _, rfl, rfl, ⟨g.1, g.2.1, g.2.2.1⟩, q _ H Z _ (.d hz (.int _)) g.2.2.2⟩
  · exact g.elim
theorem fun_neg : UnR X (unaryOp .USub) (rF1 X.K uNeg) := by
  intro pins s σ H x v Q I rx ⟨Z, d, Qf, hz, hd, g, q⟩
  unfold uNeg at g
  split at g
  · cases hd.int
    exact un_neg pins s σ H _ v Q I rx ⟨_, rfl, q _ H Z _ (.d hz (.int _)) g⟩
  · exact g.elim
mutual
theorem Rp.dp : ∀ (d : PyData) (v : V), d.canLay0 = true → Rp K H v d → Dp K H v d
  | .none, _, _, .non => .non
  | .bool _, _, _, .bl b => .bl b
  | .int _, _, _, .int i => .int i
  | .str _, _, _, .str x => .str x
  | .list ds, _, h, .lst q z a => .lst (.inl q) (RpAll.dp ds _ (by simpa [PyData.canLay0] using h) a)
  | .tuple ds, _, h, .tup q z a => .tup (tupSq q) (RpAll.dp ds _ (by simpa [PyData.canLay0] using h) a)
  | .dict _, _, h, _ => by simp [PyData.canLay0] at h
theorem RpAll.dp : ∀ (ds : List PyData) (vs : List V), PyData.canLayAll0 ds = true → RpAll K H vs ds → DpAll K H vs ds
  | [], _, _, .nil => .nil
  | d :: ds, _, h, .cons r a => by
    have h' : d.canLay0 = true ∧ PyData.canLayAll0 ds = true := by simpa [PyData.canLayAll0] using h
    exact .cons (Rp.dp d _ h'.1 r) (RpAll.dp ds _ h'.2 a)
end
theorem RpV.dp {v : V} {d : D} (r : RpV K Z H v d) (e : Same Z H) (h : SeqAt.shaped d = true) : Dp K H v d := Rp.dp d v (SeqAt.canLay_of_shaped h) (r.rp e)
theorem RpV.dpU {v : V} {d : D} (r : RpV K Z H v d) (e : Same Z H) (h : SeqAt.shaped (unlit d) = true) : Dp K H v (unlit d) := by
  revert h
  unfold unlit
  split
  · rename_i xs
    intro h
    obtain ⟨p, ns, rfl, rfl, h1, h2⟩ := r.lit e
    exact .lst h1 (dpInts ns)
  · intro h
    exact r.dp e h
where dpInts : ∀ ns : List Int, DpAll K H (ns.map V.int) (ns.map PyData.int)
  | [] => .nil
  | n :: ns => .cons (.int n) (dpInts ns)
theorem fop_eq (hu : X.A.units + 64 < cLine) : OpR X (compareOp .Eq) (rF2 X.K cEq) := by
  intro pins s σ H x y v u Q I rx ry ⟨Z, d, e, Qf, hz, hd, he, g, q⟩
  rcases g with ⟨z, z', rfl, rfl, g⟩ | ⟨g1, g2, g⟩
  · cases hd.str; cases he.str
    refine op_eq pins s σ H _ _ v u Q I rx ry ⟨rfl, ?_⟩
    rw [show decide (V.str z = V.str z') = decide (z = z') by simp]
    exact q _ H Z _ (.d hz (.bl _)) g
  exact op_eqD hu pins s σ H x y v u Q I rx ry ⟨_, _, hd.dpU hz g1, he.dpU hz g2, g1, g2, q _ H Z _ (.d hz (.bl _)) g⟩
theorem fop_ne (hu : X.A.units + 64 < cLine) : OpR X (compareOp .NotEq) (rF2 X.K cNe) := by
  intro pins s σ H x y v u Q I rx ry ⟨Z, d, e, Qf, hz, hd, he, g, q⟩
  rcases g with ⟨z, z', rfl, rfl, g⟩ | ⟨g1, g2, g⟩
  · cases hd.str; cases he.str
    refine op_ne pins s σ H _ _ v u Q I rx ry ⟨rfl, ?_⟩
    rw [show decide (V.str z = V.str z') = decide (z = z') by simp]
    exact q _ H Z _ (.d hz (.bl _)) g
  exact op_neD hu pins s σ H x y v u Q I rx ry ⟨_, _, hd.dpU hz g1, he.dpU hz g2, g1, g2, q _ H Z _ (.d hz (.bl _)) g⟩
theorem intsOf_eq : ∀ {xs : List D} {ns : List Int}, intsOf xs = some ns → xs = ns.map PyData.int
  | [], ns, h => by cases h; rfl
  | x :: xs, ns, h => by
    cases x with
    | int i =>
      unfold intsOf at h
      cases e : intsOf xs with
      | none => rw [e] at h; cases h
      | some ms =>
        rw [e] at h
        cases h
        rw [intsOf_eq e]; rfl
    | _ => unfold intsOf at h; cases h
theorem boolsOf_eq : ∀ {xs : List D} {ns : List Bool}, boolsOf xs = some ns → xs = ns.map PyData.bool
  | [], ns, h => by cases h; rfl
  | x :: xs, ns, h => by
    cases x with
    | bool i =>
      unfold boolsOf at h
      cases e : boolsOf xs with
      | none => rw [e] at h; cases h
      | some ms =>
        rw [e] at h
        cases h
        rw [boolsOf_eq e]; rfl
    | _ => unfold boolsOf at h; cases h
theorem fop_lt (hu : X.A.units < cLine) : OpR X (compareOp .Lt) (rF2 X.K cLt) := by
  intro pins s σ H x y v u Q I rx ry ⟨Z, d, e, Qf, hz, hd, he, g, q⟩
  unfold cLt at g
  split at g
  · cases hd.int; cases he.int
    exact op_lt pins s σ H _ _ v u Q I rx ry ⟨_, _, rfl, rfl, q _ H Z _ (.d hz (.bl _)) g⟩
  · split at g
    · rename_i ns ms e1 e2
      obtain ⟨p, vs, rfl, h1, h2, h3⟩ := hd.tuple hz
      obtain ⟨p', vs', rfl, h1', h2', h3'⟩ := he.tuple hz
      rw [intsOf_eq e1] at h3
      rw [intsOf_eq e2] at h3'
      rw [h3.ints] at h1
      rw [h3'.ints] at h1'
      exact op_ltT hu pins s σ H _ _ v u Q I rx ry ⟨p, p', ns, ms, rfl, rfl, h1, h1', q _ H Z _ (.d hz (.bl _)) g⟩
    · exact g.elim
  · exact g.elim
theorem fop_le : OpR X (compareOp .LtE) (rF2 X.K cLe) := by
  intro pins s σ H x y v u Q I rx ry ⟨Z, d, e, Qf, hz, hd, he, g, q⟩
  unfold cLe at g
  split at g
  · cases hd.int; cases he.int
    exact op_le pins s σ H _ _ v u Q I rx ry ⟨_, _, rfl, rfl, q _ H Z _ (.d hz (.bl _)) g⟩
  · exact g.elim
theorem fop_gt : OpR X (compareOp .Gt) (rF2 X.K cGt) := by
  intro pins s σ H x y v u Q I rx ry ⟨Z, d, e, Qf, hz, hd, he, g, q⟩
  unfold cGt at g
  split at g
  · cases hd.int; cases he.int
    exact op_gt pins s σ H _ _ v u Q I rx ry ⟨_, _, rfl, rfl, q _ H Z _ (.d hz (.bl _)) g⟩
  · exact g.elim
theorem fop_ge : OpR X (compareOp .GtE) (rF2 X.K cGe) := by
  intro pins s σ H x y v u Q I rx ry ⟨Z, d, e, Qf, hz, hd, he, g, q⟩
  unfold cGe at g
  split at g
  · cases hd.int; cases he.int
    exact op_ge pins s σ H _ _ v u Q I rx ry ⟨_, _, rfl, rfl, q _ H Z _ (.d hz (.bl _)) g⟩
  · exact g.elim
theorem fop_in (hu : X.A.units + 65 < cLine) : OpR X (compareOp .In) (rF2 X.K cIn) := by
  intro pins s σ H x y v u Q I rx ry ⟨Z, d, e, Qf, hz, hd, he, g, q⟩
  unfold cIn at g
  split at g
  · exact op_inD hu pins s σ H _ _ v u Q I rx ry ⟨d, _, hd.dp hz g.1, he.dp hz g.2.1, g.1, g.2.1, q _ H Z _ (.d hz (.bl _)) g.2.2⟩
  · obtain ⟨as, r1⟩ := Dp.reads I d x v (hd.dp hz g.1) rx
    obtain ⟨bs, r2⟩ := Dp.reads I _ y u (he.dp hz g.2.1) ry
    exact SeqAt.in_tuple_reads r2 r1 (by have := SeqAt.canLay_of_shaped g.2.1; simpa [PyData.canLay0] using this) (SeqAt.canLay_of_shaped g.1) (room_in_shaped g.1 hu) ⟨.bl _, H, I, rfl, q _ H Z _ (.d hz (.bl _)) g.2.2⟩
  · exact g.elim
theorem fop_notIn (hu : X.A.units + 65 < cLine) : OpR X (compareOp .NotIn) (rF2 X.K cNotIn) := by
  intro pins s σ H x y v u Q I rx ry ⟨Z, d, e, Qf, hz, hd, he, g, q⟩
  unfold cNotIn at g
  split at g
  · exact op_notInD hu pins s σ H _ _ v u Q I rx ry ⟨d, _, hd.dp hz g.1, he.dp hz g.2.1, g.1, g.2.1, q _ H Z _ (.d hz (.bl _)) g.2.2⟩
  · obtain ⟨as, r1⟩ := Dp.reads I d x v (hd.dp hz g.1) rx
    obtain ⟨bs, r2⟩ := Dp.reads I _ y u (he.dp hz g.2.1) ry
    exact SeqAt.notIn_tuple_reads r2 r1 (by have := SeqAt.canLay_of_shaped g.2.1; simpa [PyData.canLay0] using this) (SeqAt.canLay_of_shaped g.1) (room_in_shaped g.1 hu) ⟨.bl _, H, I, rfl, q _ H Z _ (.d hz (.bl _)) g.2.2⟩
  · exact g.elim
theorem rp_none {v : V} {d : D} (r : Rp K H v d) : decide (v = .non) = isNone d := by cases r <;> rfl
theorem fop_isNot : OpR X (compareOp .IsNot) (rF2 X.K cIsNot) := by
  intro pins s σ H x y v u Q I rx ry ⟨Z, d, e, Qf, hz, hd, he, g, q⟩
  unfold cIsNot at g
  split at g
  · cases he.non
    refine op_notN pins s σ H _ _ v u Q I rx ry ⟨rfl, ?_⟩
    rw [rp_none (hd.rp hz)]
    exact q _ H Z _ (.d hz (.bl _)) g
  · cases hd.bool; cases he.bool
    exact op_isnot_bl pins s σ H _ _ v u Q I rx ry ⟨_, _, rfl, rfl, q _ H Z _ (.d hz (.bl _)) g⟩
  · exact g.elim
theorem RpAll.atI {vs : List V} {ds : List D} {i : Int} {d : D} (r : RpAll K Z vs ds) (e : L2.atI ds i = some d) : ∃ v, L2.atI vs i = some v ∧ Rp K Z v d := by
  unfold L2.atI at e ⊢
  rw [r.length]
  cases h : ixN ds.length i with
  | none => rw [h] at e; cases e
  | some j => rw [h] at e; exact r.get e
theorem fix_d : IxR X (rF2 X.K ixD) := by
  intro value slice pins s σ H x y v u Q I rx ry ⟨Z, d, e, Qf, hz, hd, he, g, q⟩ hpl
  unfold ixD at g
  split at g
  · split at g
    · obtain ⟨p, vs, rfl, h1, h2, h3⟩ := hd.list hz
      cases he.int
      obtain ⟨w, hw, rw'⟩ := h3.atI (by assumption)
      exact ix_list value slice pins s σ H _ _ v u Q I rx ry ⟨p, vs, _, w, rfl, rfl, .inl h1, hw, q _ H Z _ (.d hz rw') g⟩ hpl
    · exact g.elim
  · split at g
    · obtain ⟨p, vs, rfl, h1, h2, h3⟩ := hd.tuple hz
      cases he.int
      obtain ⟨w, hw, rw'⟩ := h3.atI (by assumption)
      exact ix_tup value slice pins s σ H _ _ v u Q I rx ry ⟨p, vs, _, w, rfl, rfl, h1, hw, q _ H Z _ (.d hz rw') g⟩ hpl
    · exact g.elim
  · obtain ⟨g1, g2⟩ := g
    split at g2
    · cases hd.str
      cases he.int
      exact ix_str value slice pins s σ H _ _ v u Q I rx ry ⟨_, _, _, rfl, rfl, g1, by assumption, q _ H Z _ (.d hz (.str _)) g2⟩ hpl
    · exact g2.elim
  · split at g
    · obtain ⟨p, ns, rfl, rfl, h1, h2⟩ := hd.lit hz
      cases he.int
      rename_i x heq
      obtain ⟨w, hw, rz⟩ := RpAll.atI (RpAll.of_ints (K := X.K) (H := Z) ns) heq
      exact ix_list value slice pins s σ H _ _ v u Q I rx ry ⟨p, _, _, w, rfl, rfl, h1, hw, q _ H Z _ (.d hz rz) g⟩ hpl
    · exact g.elim
  · exact g.elim
end
end Hs
namespace Hs
open PySem PySem.Spec PyProof.Rows L2
section
variable {prog : Program} {w : World} {A : Around} {E : Value → Shared → Prop} {s : Shared} {l : Addr}
theorem iter_intTuple {xs : Array (Int × Tok)} {Q : Value → Shared → Prop} (hl : s.heap.IsTuple l (intItems xs))
    (h : ∀ s₂ : Shared, s₂ = { s with heap := s.heap.push { cls := .type "tuple_iterator", data := .fields #[.ref l, .int 0 0] } } →
      (s₂.heap.IsTupleIter s.heap.objs.size l 0 ∧ s₂.heap.IsTuple l (intItems xs)) → (∀ b ∈ [s.heap.objs.size, l], b < s₂.heap.objs.size) → l ≠ s.heap.objs.size → Q (.ref s.heap.objs.size) s₂) :
    wpAny (model prog w) A (pyIter (.ref l)) Q E s := by
  have hlt : l < s.heap.objs.size := by obtain ⟨_, e, _⟩ := hl; exact Heap.lt_size e
  refine wpAny_pyIter_tuple hl (h _ rfl ⟨⟨_, Heap.get?_push_size _ rfl, rfl, rfl⟩, hl.push _⟩ (fun b hb => ?_) (Nat.ne_of_lt hlt))
  show b < (s.heap.push _).objs.size
  rw [Heap.size_push]
  rcases List.mem_cons.mp hb with rfl | hb
  · exact Nat.lt_succ_self _
  · rcases List.mem_cons.mp hb with rfl | hb
    · exact Nat.lt_succ_of_lt hlt
    · cases hb
theorem old_keptT {h' : Heap} (hk : ∀ b o, b ∉ [s.heap.objs.size] → (s.heap.push { cls := .type "tuple_iterator", data := .fields #[.ref l, .int 0 0] }).get? b = some o → h'.get? b = some o) :
    ∀ b o, s.heap.get? b = some o → h'.get? b = some o := fun b o e => by
  refine hk b o (fun hm => ?_) (Heap.get?_push_of_some _ e)
  rcases List.mem_cons.mp hm with e1 | hm
  · exact absurd (e1 ▸ Heap.lt_size e) (Nat.lt_irrefl _)
  · cases hm
theorem max_intTuple {xs : Array (Int × Tok)} {Q : Value → Shared → Prop} (hh : A.handled = none) (hl : s.heap.IsTuple l (intItems xs)) (hne : 0 < xs.size)
    (h : ∀ v h' tk, (intItems xs)[argBest (fun i j => decide (numAt xs i > numAt xs j)) (xs.size - 1)]? = some v → (∀ b o, s.heap.get? b = some o → h'.get? b = some o) → Q v { s with heap := h', toks := tk }) :
    wpAny (model prog w) A (call (.builtin "max") [.ref l]) Q E s := by
  refine call_max_walk (iter_intTuple hl fun s₂ e st hfp hlI => ?_)
  subst e
  refine ⟨_, _, _, _, _, _, _, rfl, PySem.Walks.tuple (A := A.in1) hh _ l hlI (intItems xs), st, hfp, by simpa [intItems] using hne, CmpOf.ints_gt (numAt xs) (fun _ _ => intItems_at), fun v h' tk hP hk => ?_⟩
  exact h v h' tk (by simpa [intItems] using hP) (old_keptT hk)
theorem max_rawT {its : List Value} {ns : List Int} {Q : Value → Shared → Prop} (hh : A.handled = none) (hl : s.heap.IsTuple l its.toArray) (hi : IntsAre its ns) (hne : 0 < ns.length)
    (h : ∀ h' tk M t', (∀ b o, s.heap.get? b = some o → h'.get? b = some o) → M ∈ ns → (∀ a, a ∈ ns → a ≤ M) → Q (.int M t') { s with heap := h', toks := tk }) : wpAny (model prog w) A (call (.builtin "max") [.ref l]) Q E s := by
  obtain ⟨xs, e⟩ := hi.allInts.items
  have hn : numsOf (intItems xs).toList = ns := by rw [← e]; exact hi.numsOf
  rw [nums_intItems] at hn
  subst hn
  rw [e] at hl
  have hsz : 0 < xs.size := by simpa using hne
  refine max_intTuple hh hl hsz fun v h' tk hv hk => ?_
  obtain ⟨t, rfl⟩ := intItems_at hv
  obtain ⟨h1, h2⟩ := argBest_gt (numAt xs) (xs.size - 1)
  refine h h' tk _ t hk ?_ fun a ha => ?_
  · rw [numAt_eq]; exact PySem.getD_mem (by rw [List.length_map, Array.length_toList]; omega)
  · obtain ⟨j, hj, rfl⟩ := mem_getD ha
    rw [List.length_map, Array.length_toList] at hj
    rw [← numAt_eq]; exact h2 j (by omega)
end
def rMaxT (K : PySem.W.Frag) : List V → Hp → VK → Prop := fun vs H Q => ∃ (a : Addr) (ns : List Int), vs = [V.ref a] ∧ SqT K H a (ns.map V.int) ∧ 0 < ns.length ∧ ∀ m, m ∈ ns → (∀ y, y ∈ ns → y ≤ m) → Q (.int m) H
theorem cr_maxT {X : Cx} (hc : X.calm = true) : CallR X (.builtin "max") (rMaxT X.K) := by
  intro pins s σ H vs us Q I r h
  obtain ⟨a, ns, rfl, hs, hne, q⟩ := h
  obtain ⟨its, rv, hl, _⟩ := I.tuple hs
  rw [Vals.ref1 r]
  exact max_rawT (I.ok.hd hc) hl rv.ints hne fun h' tk m t' hk h1 h2 => ⟨.int _, H, I.kept hk, ⟨_, rfl⟩, q m h1 h2⟩
section
variable {X : Cx} {L : Lv} {e a b c : Expr} {es : List Expr} {fa fb fc : FE} {ft fu : FT} {fr : FA} {pos p : Pos}
variable {K : PySem.W.Frag}
def liftO (X : Cx) (L : Lv) (fo : FO) : TO := fun σ H Q => ∃ Z Y s Xf Qf, Rel X.K Z Y H σ s ∧ L.keeps σ ∧ XOk X L Z Y Xf ∧ fo Xf s Qf ∧ ∀ o H' Z' s', Same Z Z' → Rel X.K Z' Y H' σ s' → Qf o s' → Q o H'
def PFO (X : Cx) (L : Lv) (e : Option Expr) (fo : FO) : Prop := PO X e (liftO X L fo)
theorem PO_imp {eo : Option Expr} {t t' : TO} (h : PO X eo t) (hi : ∀ σ H Q, t' σ H Q → t σ H Q) : PO X eo t' := ⟨fun pins s σ H Q I q => h.run pins s σ H Q I (hi σ H Q q)⟩
theorem pfo_none : PFO X L none fNoPart := PO_imp po_none fun σ H Q ⟨Z, Y, s, Xf, Qf, r, k, xo, h, q⟩ => q none H Z s (Same.refl _) r h
theorem pfo_some (h : PF X L e fa) : PFO X L (some e) (fPart fa) := PO_imp (po_some h) fun σ H Q ⟨Z, Y, s, Xf, Qf, r, k, xo, h, q⟩ => by
  refine ⟨Z, Y, s, Xf, _, r, k, xo, h, fun v H1 Z1 r1 s1 hz rx h1 => ?_⟩
  split at h1
  · exact ⟨_, rx.vi, q _ H1 Z1 s1 hz rx.rel0 h1⟩
  · exact h1.elim
def rFs (K : PySem.W.Frag) (g : D → Option Int → Option Int → (R → Prop) → Prop) : V → Option Int → Option Int → Hp → VK → Prop := fun x lo hi H Q => ∃ Z d Qf, Same Z H ∧ RpV K Z H x d ∧ g d lo hi Qf ∧ ∀ u H' Z' r, NewR K Z H Z' H' u r → Qf r → Q u H'
theorem fSl_ok {g : D → Option Int → Option Int → (R → Prop) → Prop} {fl fh : FO} {σ : St} {H : Hp} {Q : VK} (h : liftE X L (fSl g fa fl fh) σ H Q) : tSl (rFs X.K g) (liftE X L fa) (liftO X L fl) (liftO X L fh) σ H Q := by
  obtain ⟨Z, Y, s, Xf, Qf, r, k, xo, h, q⟩ := h
  refine ⟨Z, Y, s, Xf, _, r, k, xo, h, fun v H1 Z1 r1 s1 hz rx h1 => ?_⟩
  obtain ⟨Y', hy, rl, bk, fw⟩ := rx.frame
  refine ⟨Z1, Y', s1, Xf, _, rl, k, (xo.z hz).mono (Same.refl _) bk, h1, fun lo H2 Z2 s2 hz2 r2 h2 => ?_⟩
  refine ⟨Z2, Y', s2, Xf, _, r2, k, (xo.z (hz.trans hz2)).mono (Same.refl _) fun Z' H' σ' s' hz' => bk Z' H' σ' s' (hz2.trans hz'), h2, fun hi H3 Z3 s3 hz3 r3 h3 => ?_⟩
  have rx3 := fw Z3 H3 s3 [] [] (hz2.trans hz3) (.nil r3)
  obtain ⟨d, e1, h4⟩ := look_ok h3
  obtain ⟨v', ev, rv⟩ := rx3.look (k := 0) rfl e1
  cases ev
  exact ⟨Z3, d, _, rx3.rel0.zh, rv, h4, fun u H' Z' r n hq => q u H' Z' r s3 (((hz.trans hz2).trans hz3).trans n.hz) (rx3.rel0.new n) hq⟩
theorem RpAll.cut {Z : Hp} {vs : List V} {ds : List D} (r : RpAll K Z vs ds) (lo hi : Option Int) : RpAll K Z (cutV vs lo hi) (slD.cutL ds lo hi) := by
  unfold cutV slD.cutL
  rw [r.length]
  exact (r.drop _).take _
theorem fsl : SlR X (rFs X.K slD) := by
  intro pins s σ H x v vl vu lo hi sl Q I rx hs pl pu ⟨Z, d, Qf, hz, hd, g, q⟩
  unfold slD at g
  split at g
  · obtain ⟨p, vs, rfl, h1, h2, h3⟩ := hd.list hz
    exact sl_list pins s σ H _ v vl vu lo hi sl Q I rx hs pl pu ⟨p, vs, rfl, .inl h1, fun n hn => q _ _ Z _ (.lst hz hn (Nat.le_trans (cutV_length vs lo hi) h2) (h3.cut lo hi)) g⟩
  · obtain ⟨p, vs, rfl, h1, h2, h3⟩ := hd.tuple hz
    refine sl_tupA pins s σ H _ v vl vu lo hi sl Q I rx hs pl pu ⟨p, vs, rfl, h1, fun hw => ?_, fun hw n hn => q _ _ _ _ (.tup hz hn (Nat.le_trans (cutV_length vs lo hi) h2) (h3.cut lo hi)) g⟩
    rename_i xs0
    have e : slD.cutL xs0 lo hi = xs0 := by
      unfold slD.cutL
      rw [← h3.length, hw.1, hw.2, h3.length, Nat.sub_zero, List.drop_zero, List.take_length]
    rw [e] at g
    exact q _ H Z _ (.d hz (fop_add.RpV.tupZ hd)) g
  · exact g.elim
theorem pf_sl {lo hi : Option Expr} {fl fh : FO} {p2 : Pos} (he : PF X L e fa) (hl : PFO X L lo fl) (hh : PFO X L hi fh) : PF X L (.Subscript e (.Slice lo hi none p2) pos) (fSl slD fa fl fh) := PE_imp (pe_slice fsl he hl hh) fun _ _ _ => fSl_ok
inductive RpVs (K : PySem.W.Frag) (Z H : Hp) : List V → List D → Prop
  | nil : RpVs K Z H [] []
  | cons {v : V} {vs : List V} {d : D} {ds : List D} : RpV K Z H v d → RpVs K Z H vs ds → RpVs K Z H (v :: vs) (d :: ds)
def rFN (K : PySem.W.Frag) (g : VN) : List V → Hp → VK → Prop := fun vs H Q => ∃ Z ds Qf, Same Z H ∧ RpVs K Z H vs ds ∧ g ds Qf ∧ ∀ u H' Z' r, NewR K Z H Z' H' u r → Qf r → Q u H'
theorem lookAll_ok {Z H : Hp} {s : S} : ∀ {rs : List R} {vs : List V} {k : List D → Prop}, vs.length = rs.length → (∀ (j : Nat) q d, rs[j]? = some q → viewR s q = some d → ∃ v, vs[j]? = some v ∧ RpV K Z H v d) → fBlt.lookAll s rs k → ∃ ds, RpVs K Z H vs ds ∧ k ds
  | [], [], k, hl, hv, h => ⟨[], .nil, h⟩
  | [], _ :: _, k, hl, hv, h => by cases hl
  | r :: rs, [], k, hl, hv, h => by cases hl
  | r :: rs, v :: vs, k, hl, hv, h => by
    obtain ⟨d, e, h2⟩ := look_ok h
    obtain ⟨v', ev, rv⟩ := hv 0 r d rfl e
    cases ev
    obtain ⟨ds, rr, h3⟩ := lookAll_ok (by simpa using hl) (fun j q d h1 h2 => hv (j + 1) q d h1 h2) h2
    exact ⟨d :: ds, .cons rv rr, h3⟩
theorem fBlt_ok {g : VN} {n : Nat} {σ : St} {H : Hp} {Q : VK} (h : liftE X L (fBlt g fr) σ H Q) : tCB (rFN X.K g) (liftA X L n fr) σ H Q := by
  obtain ⟨Z, Y, s, Xf, Qf, r, k, xo, h, q⟩ := h
  refine ⟨Z, Y, s, Xf, _, r, k, xo, h, fun vs H1 Z1 rs s1 hz rx hn h1 => ?_⟩
  obtain ⟨ds, rr, h2⟩ := lookAll_ok rx.l2 (fun j q d e1 e2 => rx.look e1 e2) h1
  exact ⟨Z1, ds, _, rx.rel0.zh, rr, h2, fun u H' Z' r n hq => q u H' Z' r s1 (hz.trans n.hz) (rx.rel0.new n) hq⟩
variable {x : Str} {id T : String}
theorem pf_blt {g : VN} (hc : CallR X (.builtin id) (rFN X.K g)) (hm : X.mg x = none) (hv : bootBuiltins x = some (.builtin id)) (ha : PFA X L (e :: es) fr) (hg : Gl X x := by rfl) (hn : x ≠ "__name__" := by decide) (hdb : (x == ("__debug__" : Str)) = false := by decide)
    (he : starEach (e :: es) X.env = (false, eval e X.env) :: starEach es X.env := by rfl) (hpl : (backTo pos (starEach es X.env)).any (·.1) = false := by rfl) : PF X L (.Call (.Name x p) (e :: es) [] pos) (fBlt g fr) := PE_imp (pe_callB hc hg hm hv ha hn hdb he hpl) fun _ _ _ => fBlt_ok
theorem pf_bty {g : VN} (hc : CallR X (.type T) (rFN X.K g)) (hm : X.mg x = none) (hv : bootBuiltins x = some (.type T)) (ha : PFA X L (e :: es) fr) (hg : Gl X x := by rfl) (hn : x ≠ "__name__" := by decide) (hdb : (x == ("__debug__" : Str)) = false := by decide)
    (he : starEach (e :: es) X.env = (false, eval e X.env) :: starEach es X.env := by rfl) (hpl : (backTo pos (starEach es X.env)).any (·.1) = false := by rfl) : PF X L (.Call (.Name x p) (e :: es) [] pos) (fBlt g fr) := PE_imp (pe_callTy hc hg hm hv ha hn hdb he hpl) fun _ _ _ => fBlt_ok
theorem RpVs.one {Z H : Hp} {vs : List V} {d : D} (r : RpVs K Z H vs [d]) : ∃ v, vs = [v] ∧ RpV K Z H v d := by
  cases r with
  | cons h r => cases r; exact ⟨_, rfl, h⟩
theorem RpVs.two {Z H : Hp} {vs : List V} {d e : D} (r : RpVs K Z H vs [d, e]) : ∃ v w, vs = [v, w] ∧ RpV K Z H v d ∧ RpV K Z H w e := by
  cases r with
  | cons h r =>
    cases r with
    | cons h2 r => cases r; exact ⟨_, _, rfl, h, h2⟩
theorem fb_len : CallR X (.builtin "len") (rFN X.K bLen) := by
  intro pins s σ H vs us Q I rv ⟨Z, ds, Qf, hz, rr, g, q⟩
  unfold bLen at g
  split at g
  · obtain ⟨v, rfl, r1⟩ := rr.one
    obtain ⟨p, vs, rfl, h1, h2, h3⟩ := r1.list hz
    exact call_len pins s σ H _ us Q I rv ⟨_, vs.length, rfl, .inl ⟨vs, .inl h1, rfl⟩, by rw [h3.length]; exact q _ H Z _ (.d hz (.int _)) g⟩
  · obtain ⟨v, rfl, r1⟩ := rr.one
    obtain ⟨p, vs, rfl, h1, h2, h3⟩ := r1.tuple hz
    exact call_len pins s σ H _ us Q I rv ⟨_, vs.length, rfl, .inr ⟨vs, h1, rfl⟩, by rw [h3.length]; exact q _ H Z _ (.d hz (.int _)) g⟩
  · obtain ⟨v, rfl, r1⟩ := rr.one
    cases r1.str
    exact call_len pins s σ H _ us Q I rv ⟨_, _, rfl, ⟨g.1, rfl⟩, q _ H Z _ (.d hz (.int _)) g.2⟩
  · obtain ⟨v, rfl, r1⟩ := rr.one
    obtain ⟨p, ns, rfl, rfl, h1, h2⟩ := r1.lit hz
    exact call_len pins s σ H _ us Q I rv ⟨_, _, rfl, .inl ⟨_, h1, rfl⟩, by rw [List.length_map]; rw [List.length_map] at g; exact q _ H Z _ (.d hz (.int _)) g⟩
  · exact g.elim
theorem fb_abs : CallR X (.builtin "abs") (rFN X.K bAbs) := by
  intro pins s σ H vs us Q I rv ⟨Z, ds, Qf, hz, rr, g, q⟩
  unfold bAbs at g
  split at g
  · obtain ⟨v, rfl, r1⟩ := rr.one
    cases r1.int
    exact call_abs pins s σ H _ us Q I rv ⟨_, rfl, q _ H Z _ (.d hz (.int _)) g⟩
  · exact g.elim
theorem fb_max2 (hc : X.calm = true) : CallR X (.builtin "max") (rFN X.K bMax2) := by
  intro pins s σ H vs us Q I rv ⟨Z, ds, Qf, hz, rr, g, q⟩
  unfold bMax2 at g
  split at g
  · obtain ⟨v, w, rfl, r1, r2⟩ := rr.two
    cases r1.int; cases r2.int
    exact call_max2 hc pins s σ H _ us Q I rv ⟨_, _, rfl, q _ H Z _ (.d hz (.int _)) g⟩
  · exact g.elim
theorem fb_min2 (hc : X.calm = true) : CallR X (.builtin "min") (rFN X.K bMin2) := by
  intro pins s σ H vs us Q I rv ⟨Z, ds, Qf, hz, rr, g, q⟩
  unfold bMin2 at g
  split at g
  · obtain ⟨v, w, rfl, r1, r2⟩ := rr.two
    cases r1.int; cases r2.int
    exact call_min2 hc pins s σ H _ us Q I rv ⟨_, _, rfl, q _ H Z _ (.d hz (.int _)) g⟩
  · exact g.elim
theorem fb_tuple : CallR X (.type "tuple") (rFN X.K bTuple) := by
  intro pins s σ H vs us Q I rv ⟨Z, ds, Qf, hz, rr, g, q⟩
  unfold bTuple at g
  split at g
  · obtain ⟨v, rfl, r1⟩ := rr.one
    obtain ⟨p, vs, rfl, h1, h2, h3⟩ := r1.list hz
    exact call_tuple_of pins s σ H _ us Q I rv ⟨p, vs, rfl, .inl ⟨.inl h1, fun n hn => q _ _ _ _ (.tup hz hn h2 h3) g⟩⟩
  · obtain ⟨v, rfl, r1⟩ := rr.one
    obtain ⟨p, vs, rfl, h1, h2, h3⟩ := r1.tuple hz
    exact call_tuple_of pins s σ H _ us Q I rv ⟨p, vs, rfl, .inr ⟨h1, q _ H Z _ (.d hz (fop_add.RpV.tupZ r1)) g⟩⟩
  · exact g.elim
theorem fb_list : CallR X (.type "list") (rFN X.K bList) := by
  intro pins s σ H vs us Q I rv ⟨Z, ds, Qf, hz, rr, g, q⟩
  unfold bList at g
  split at g
  · obtain ⟨v, rfl, r1⟩ := rr.one
    obtain ⟨p, vs, rfl, h1, h2, h3⟩ := r1.list hz
    exact call_list_of pins s σ H _ us Q I rv ⟨p, vs, rfl, .inl (.inl h1), fun n hn => q _ _ Z _ (.lst hz hn h2 h3) g⟩
  · obtain ⟨v, rfl, r1⟩ := rr.one
    obtain ⟨p, vs, rfl, h1, h2, h3⟩ := r1.tuple hz
    exact call_list_of pins s σ H _ us Q I rv ⟨p, vs, rfl, .inr h1, fun n hn => q _ _ Z _ (.lst hz hn h2 h3) g⟩
  · exact g.elim
theorem fb_all (hc : X.calm = true) : CallR X (.builtin "all") (rFN X.K bAll) := by
  intro pins s σ H vs us Q I rv ⟨Z, ds, Qf, hz, rr, g, q⟩
  unfold bAll at g
  split at g
  · split at g
    · rename_i eb
      obtain ⟨v, rfl, r1⟩ := rr.one
      obtain ⟨p, vs, rfl, h1, h2, h3⟩ := r1.list hz
      rw [boolsOf_eq eb] at h3
      rw [h3.bools] at h1
      exact cr_all hc pins s σ H _ us Q I rv ⟨p, _, rfl, .inl h1, q _ H Z _ (.d hz (.bl _)) g⟩
    · exact g.elim
  · exact g.elim
theorem fb_any (hc : X.calm = true) : CallR X (.builtin "any") (rFN X.K bAny) := by
  intro pins s σ H vs us Q I rv ⟨Z, ds, Qf, hz, rr, g, q⟩
  unfold bAny at g
  split at g
  · split at g
    · rename_i eb
      obtain ⟨v, rfl, r1⟩ := rr.one
      obtain ⟨p, vs, rfl, h1, h2, h3⟩ := r1.list hz
      rw [boolsOf_eq eb] at h3
      rw [h3.bools] at h1
      exact cr_any hc pins s σ H _ us Q I rv ⟨p, _, rfl, .inl h1, q _ H Z _ (.d hz (.bl _)) g⟩
    · exact g.elim
  · exact g.elim
theorem fb_maxL (hc : X.calm = true) : CallR X (.builtin "max") (rFN X.K bMaxL) := by
  intro pins s σ H vs us Q I rv ⟨Z, ds, Qf, hz, rr, g, q⟩
  unfold bMaxL at g
  split at g
  · split at g
    · rename_i eb
      obtain ⟨v, rfl, r1⟩ := rr.one
      obtain ⟨p, vs, rfl, h1, h2, h3⟩ := r1.list hz
      rw [intsOf_eq eb] at h3
      rw [h3.ints] at h1
      exact cr_max hc pins s σ H _ us Q I rv ⟨p, _, rfl, .inl h1, g.1, fun m hm hy => q _ H Z _ (.d hz (.int _)) (g.2 m hm hy)⟩
    · exact g.elim
  · split at g
    · rename_i eb
      obtain ⟨v, rfl, r1⟩ := rr.one
      obtain ⟨p, vs, rfl, h1, h2, h3⟩ := r1.tuple hz
      rw [intsOf_eq eb] at h3
      rw [h3.ints] at h1
      exact cr_maxT hc pins s σ H _ us Q I rv ⟨p, _, rfl, h1, g.1, fun m hm hy => q _ H Z _ (.d hz (.int _)) (g.2 m hm hy)⟩
    · exact g.elim
  · exact g.elim
def tyName : D → String
  | .none => "NoneType"
  | .bool _ => "bool"
  | .int _ => "int"
  | .str _ => "str"
  | .list _ => "list"
  | .tuple _ => "tuple"
  | .dict _ => "dict"
theorem tyX_of {H : Hp} {v : V} {d : D} (r : Rp K H v d) (hl : isLit d = false) : TyX K H v (.type (tyName d)) := by
  cases r with
  | lit h z => cases hl
  | exc h => cases hl
  | obj h1 h2 a => cases hl
  | non => exact .base .non
  | bl b => exact .base (.bl b)
  | int i => exact .base (.int i)
  | str x => exact .base (.str x)
  | lst h z a =>
    rcases h with h | ⟨o, h⟩
    · exact .base (.lst h)
    · exact .base (.frz h)
  | tup h z a => exact .base (.tup h)
  | dcK h a =>
    rcases h with h | ⟨o, h⟩
    · exact .base (.dK h)
    · exact .fDict h
  | dcT h a => exact .base (.dT h)
/-- the classes that are asked for -/
inductive AskTy : String → Prop
  | int : AskTy "int" | bool : AskTy "bool" | tuple : AskTy "tuple" | list : AskTy "list" | str : AskTy "str" | dict : AskTy "dict"
def tyB (n T : String) : Bool := n == T || (n == "bool" && T == "int")
theorem kitTab : ∀ n ∈ ["NoneType", "bool", "int", "str", "list", "tuple", "dict"], ∀ T ∈ ["int", "bool", "tuple", "list", "str", "dict"], kitB n T = some (tyB n T) := by decide +kernel
theorem tyName_mem (d : D) : tyName d ∈ ["NoneType", "bool", "int", "str", "list", "tuple", "dict"] := by cases d <;> simp [tyName]
theorem isTy_eq {T : String} (h : AskTy T) (d : D) : isTy T d = tyB (tyName d) T := by cases h <;> cases d <;> rfl
theorem kit_is {T : String} (h : AskTy T) (d : D) : PySem.W.kitOne K (.type (tyName d)) (.type T) = some (isTy T d) := by
  rw [isTy_eq h]
  exact kit_ty (kitTab _ (tyName_mem d) T (by cases h <;> simp))
theorem pf_isinst {T : String} {tx : Str} {p2 : Pos} (hT : AskTy T) (ha : PF X L a fa) (hm : X.mg "isinstance" = none) (hmT : X.mg tx = none) (hbT : bootBuiltins tx = some (.type T)) (hg : Gl X "isinstance" := by rfl) (hgT : Gl X tx := by rfl)
    (hnT : tx ≠ "__name__" := by decide) (hdT : (tx == ("__debug__" : Str)) = false := by decide) (he : starEach [a, .Name tx p2] X.env = (false, eval a X.env) :: starEach [.Name tx p2] X.env := by rfl) (he2 : starEach [.Name tx p2] X.env = (false, eval (.Name tx p2) X.env) :: starEach [] X.env := by rfl)
    (hpl : (backTo pos (starEach [.Name tx p2] X.env)).any (·.1) = false := by rfl) : PF X L (.Call (.Name "isinstance" p) [a, .Name tx p2] [] pos) (fUn (bIs T) fa) :=
  PE_imp (pe_callB call_isi hg hm (by decide +kernel) (pa_cons ha (pa_cons (pe_bltn (v := .ty T) hgT hmT hbT rfl hnT hdT) pa_nil he2) he) (by decide) (by decide) he hpl) fun σ H Q ⟨Z, Y, s, Xf, Qf, r, k, xo, h, q⟩ => by
  refine ⟨Z, Y, s, Xf, _, r, k, xo, h, fun v H1 Z1 r1 s1 hz rx h1 => ?_⟩
  obtain ⟨d, e1, h3⟩ := look_ok h1
  obtain ⟨v', ev, rv⟩ := rx.look (k := 0) rfl e1
  cases ev
  exact ⟨v, .ty T, _, .type T, _, rfl, .ty T, tyX_of (rv.rp rx.rel0.zh) h3.1, kit_is hT d, q _ H1 Z1 _ s1 hz (.d rx.rel0 (.bl _)) h3.2⟩
def rLm (K : PySem.W.Frag) (g : LM) : V → List V → Hp → VK → Prop := fun x us H Q => ∃ Z p vs xs ds Qf, x = .ref p ∧ H p = some (.lst vs) ∧ vs.length ≤ sizeLine ∧ RpAll K Z vs xs ∧ Same Z H ∧ RpAll K Z us ds ∧ g xs ds Qf ∧
  ∀ u d vs' xs', Qf d xs' → Rp K Z u d → vs'.length ≤ sizeLine → RpAll K Z vs' xs' → Q u (upd H p (.lst vs'))
theorem onL_ok {i : Nat} {s : S} {k : List D → Prop} (h : onL i s k) : ∃ xs, s.getD i .no = .l xs ∧ k xs := by
  unfold onL at h
  generalize s.getD i .no = w at h
  cases w with
  | l xs => exact ⟨xs, rfl, h⟩
  | _ => exact h.elim
theorem Rel.slotL {Z Y H : Hp} {σ : St} {s : S} (r : Rel K Z Y H σ s) {i : Nat} {xs : List D} (e : s.getD i .no = .l xs) : ∃ p vs, σ.getD i none = some (.ref p) ∧ H p = some (.lst vs) ∧ vs.length ≤ sizeLine ∧ RpAll K Z vs xs := by
  obtain ⟨F, q⟩ := r.slot i
  rw [e] at q
  obtain ⟨p, vs, h1, _, h3, h4, h5⟩ := q
  exact ⟨p, vs, h1, h3, h4, h5⟩
theorem fLm_ok {i n : Nat} {g : LM} {σ : St} {H : Hp} {Q : VK} (h : liftE X L (fLm i g fr) σ H Q) : tBM X.K "list" (rLm X.K g) (tVar i) (liftA X L n fr) σ H Q := by
  obtain ⟨Z, Y, s, Xf, Qf, r, k, xo, h, q⟩ := h
  obtain ⟨xs0, e0, h⟩ := onL_ok h
  obtain ⟨p, vs, hv, hp, _, _⟩ := r.slotL e0
  refine ⟨.ref p, getD_some hv, .inl ⟨rfl, vs, .inl (.inl hp)⟩, Z, Y, s, Xf, _, r, k, xo, h, fun us H1 Z1 rs s1 hz rx hn h1 => ?_⟩
  obtain ⟨Z2, ds, s2, hz2, rx2, h2⟩ := frzAll_ok (us := []) (ds := []) rx rfl h1
  obtain ⟨xs, e2, h3⟩ := onL_ok h2
  have r2 := rx2.rel0
  obtain ⟨p', vs', hv', hp', hl', ra'⟩ := r2.slotL e2
  rw [hv] at hv'
  cases hv'
  refine ⟨Z2, p, vs', xs, ds, _, rfl, hp', hl', ra', r2.zh, rx2.rps, h3, fun u d vs2 xs2 hq ru hl2 ra2 => ?_⟩
  have w := r2.write (i := i) (xs' := xs2) (vs' := vs2) e2 hv hl2 ra2
  exact q u _ Z2 _ _ (hz.trans hz2) (.d w ru) hq
variable {nm : Str} {apos cpos : Pos} {y : Str} {px : Pos}
theorem pf_lm (i : Nat) {g : LM} (slot : Slot "list" nm id) (hty : typeOf (.builtin id) = pure (.type "method_descriptor")) (hm : MtR X id (rLm X.K g)) (ha : PFA X L (e :: es) fr)
    (ho : PE X (.Name y px) (tVar i)) (hbase : attributeBase (.Name y px) nm X.env (eval (.Name y px) X.env) = eval (.Name y px) X.env := by rfl)
    (hfew : ((backTo cpos (starEach (e :: es) X.env)).all (fun x => !x.1) && (backToKw cpos (keywordEach [] X.env)).all (fun x => x.1.isSome)
      && decide ((e :: es).length + ([] : List Keyword).length + (if ([] : List Keyword).isEmpty then 0 else 1) < 30)) = true := by rfl)
    (hline : (apos.endLine == cpos.line) = true := by rfl) (hs : starEach (e :: es) X.env = (false, eval e X.env) :: starEach es X.env := by rfl) (hplain : (backTo cpos (starEach es X.env)).any (·.1) = false := by rfl) :
    PF X L (.Call (.Attribute (.Name y px) nm apos) (e :: es) [] cpos) (fLm i g fr) := PE_imp (pe_bm PySem.F.plainAttrs_list slot hty hm ho ha hbase hfew hline hs hplain) fun _ _ _ => fLm_ok
theorem fm_append : MtR X "list.append" (rLm X.K mAppend) := by
  intro pins s σ H x us v vs Q I rx rv ⟨Z, p, ws, xs, ds, Qf, ex, hp, hl, ra, hz, rd, g, q⟩
  unfold mAppend at g
  split at g
  · cases rd with
    | cons r1 r2 =>
      cases r2
      have l1 := ra.length
      exact mt_append pins s σ H x _ v vs Q I rx rv ⟨p, ws, _, ex, rfl, hp, by omega, q _ _ _ _ g.2 .non (by rw [List.length_append]; show ws.length + 1 ≤ _; omega) (ra.append (.cons r1 .nil))⟩
  · exact g.elim
theorem RpAll.erase {Z : Hp} {vs : List V} {ds : List D} (r : RpAll K Z vs ds) (i : Nat) : RpAll K Z (vs.eraseIdx i) (ds.eraseIdx i) := by
  rw [List.eraseIdx_eq_take_drop_succ, List.eraseIdx_eq_take_drop_succ]
  exact (r.take i).append (r.drop (i + 1))
theorem fm_popAt : MtR X "list.pop" (rLm X.K mPopAt) := by
  intro pins s σ H x us v vs Q I rx rv ⟨Z, p, ws, xs, ds, Qf, ex, hp, hl, ra, hz, rd, g, q⟩
  unfold mPopAt at g
  split at g
  · rename_i j
    obtain ⟨g1, g2, g3⟩ := g
    split at g3
    · rename_i d hd
      cases rd with
      | cons r1 r2 =>
        cases r1; cases r2
        obtain ⟨w, hw, rw'⟩ := ra.get hd
        have hlt := (List.getElem?_eq_some_iff.mp hw).1
        exact mt_popAt pins s σ H x _ v vs Q I rx rv ⟨p, ws, _, j.toNat, w, ex, rfl, hp, by omega, g2, seqIndex_of g1 (by omega), hw, q _ _ _ _ g3 rw' (Nat.le_trans (List.length_eraseIdx_le ..) hl) (ra.erase _)⟩
    · exact g3.elim
  · exact g.elim
theorem ext_lists {pins : List (Addr × Obj)} {s : Shared} {σ : St} {H : Hp} {l b : Addr} {xs zs : List V} {v u : Value} {Q : VK} (I : Inv X pins σ H s) (hH : H l = some (.lst xs)) (hB : Rd H b (.lst zs)) (hz : xs.length + zs.length ≤ sizeLine) (q : Q .non (upd H l (.lst (xs ++ zs)))) :
    wpAny (model X.prog X.w) X.A (call (.builtin "list.extend") [.ref l, .ref b]) (EP X pins σ Q) X.xe s := by
  obtain ⟨z, its, n, r, hl, e⟩ := I.lstM hH
  obtain ⟨z2, its2, n2, r2, e2⟩ := hB.ok I.hok
  have hl2 := r2.length
  have hsz : its.toArray.size + its2.toArray.size ≤ sizeLine := by rw [List.size_toArray, List.size_toArray]; omega
  have hlong : ¬ (!its.toArray.isEmpty && Builtin.List.listTooLong (its.toArray.size + its2.toArray.size)) = true := by
    rw [notLongL hsz, Bool.and_false]
    exact Bool.false_ne_true
  refine call_meets F.slot_list_extend ⟨_, e, rfl⟩ F.entry_list_extend (F.args_list_extend_2 _ _)
    (AutoSeq1.list_extend_list_list_0 l its.toArray n b its2.toArray n2 hlong (by rw [List.size_toArray]; omega) (by omega)) ⟨e, e2, ?_⟩
  refine ⟨.non, _, I.lset (its' := its ++ its2) hH e (by simp) (r.append r2) ?_, rfl, q⟩
  rw [List.length_append]
  omega
theorem fm_extend : MtR X "list.extend" (rLm X.K mExtend) := by
  intro pins s σ H x us v vs Q I rx rv ⟨Z, p, ws, xs, ds, Qf, ex, hp, hl, ra, hz, rd, g, q⟩
  unfold mExtend at g
  split at g
  · cases rd with
    | cons r1 r2 =>
      cases r2
      subst ex
      cases rx
      cases r1 with
      | lst h z a =>
        obtain ⟨u, rfl, ru⟩ := rv.one
        cases ru
        have l1 := ra.length
        have l2 := a.length
        exact ext_lists (v := .none) (u := .none) I hp (same_rd hz h) (by omega) (q _ _ _ _ g.2 .non (by rw [List.length_append]; omega) (ra.append a))
  · exact g.elim
theorem pfs_setIx (i : Nat) {po : Pos} {j : Expr} {fj : FE} (he : PF X L e fa) (ho : PE X (.Name y px) (tVar i)) (hj : PF X L j fj)
    (ha : ∀ v, assign (.Subscript (.Name y px) j po) X.env v = (do
      let ov ← holding [v] (eval (.Name y px) X.env)
      let iv ← holding [v, ov] (eval j X.env)
      standAt po
      holding [v, ov, iv] (setItem ov iv v)
      release [v, ov, iv] []) := by intro _; rfl) (hs : swapsWithSole [.Subscript (.Name y px) j po] e pos.line X.env = pure false := by rfl) (hw : swappedStores [.Subscript (.Name y px) j po] e X.env = pure none := by rfl)
    (h1 : (assignEach [.Subscript (.Name y px) j po] X.env).map (·.2) = [assign (.Subscript (.Name y px) j po) X.env] := by rfl) : PFS X L (.Assign [.Subscript (.Name y px) j po] e pos) (fSetIx i fj fa) :=
  PS_imp (ps_asg he (pg_sub ho hj set_list ha) hs hw h1) fun D σ H ⟨Z, Y, s, Ef, r, k, h, eo⟩ => by
  refine ⟨Z, Y, s, Ef.xx, _, r, k, eo.xx, h, fun v H1 Z1 r1 s1 hz rx h1 => ?_⟩
  obtain ⟨xs0, e0, h1⟩ := onL_ok h1
  obtain ⟨q, vs0, hv, _, _, _⟩ := rx.rel0.slotL e0
  obtain ⟨Y', hy, rl, bk, fw⟩ := rx.frame
  refine ⟨.ref q, getD_some hv, Z1, Y', s1, Ef.xx, _, rl, k, (eo.xx.z hz).mono (Same.refl _) bk, h1, fun w H2 Z2 rj s2 hz2 rx2 h2 => ?_⟩
  split at h2
  · rename_i kk
    have ew := rx2.vi
    subst ew
    have rx3 := fw Z2 H2 s2 [] [] hz2 (.nil rx2.rel0)
    obtain ⟨Z3, d, s3, hz3, rx4, h3⟩ := frz_ok (us := []) (ds := []) (vs := []) (rs := []) rx3 rfl h2
    obtain ⟨xs, e2, h0, hlt, h4⟩ := onL_ok h3
    obtain ⟨q', vs', hv', hp', hl', ra'⟩ := rx4.rel0.slotL e2
    rw [hv] at hv'
    cases hv'
    have w := rx4.rel0.write (i := i) (xs' := xs.set kk.toNat d) (vs' := vs'.set kk.toNat v) e2 hv (by rw [List.length_set]; exact hl') (ra'.set rx4.vd _)
    refine ⟨q, vs', kk, kk.toNat, rfl, rfl, hp', ?_, eo.nx σ _ Z3 _ ((hz.trans hz2).trans hz3) k w h4⟩
    unfold ixN
    rw [if_pos h0, if_pos (by rw [ra'.length]; omega)]
  · exact h2.elim
end
end Hs
namespace Hs
open PySem PySem.Spec PyProof.Rows L2
/-- what is known of a text: the head's facts, the base below -/
structure TxOk (fa : List He.Fa) (fn : List He.DefD) (K : PySem.W.Frag) (mg : Str → Option Value) (base : Heap) : Prop where
  c : He.SaysD fa fn K
  X : K.In base
  G : base.Ns mainGlobals mg
section
variable {fa : List He.Fa} {fn : List He.DefD} {K : PySem.W.Frag} {mg : Str → Option Value} {base : Heap}
theorem TxOk.free (T : TxOk fa fn K mg base) (i : Nat) {x : Str} (h : fa[i]? = some (.free x) := by rfl) : mg x = none := He.free_ok T.X T.G (T.c.fact i h)
theorem TxOk.glo (T : TxOk fa fn K mg base) (i : Nat) {x : Str} (h : fa[i]? = some (.glo x) := by rfl) : mg x = some (.ref (He.ga K x)) := He.glo_ok T.X T.G (T.c.fact i h)
theorem TxOk.int (T : TxOk fa fn K mg base) (i : Nat) {x : Str} {z : Int} (h : fa[i]? = some (.int x z) := by rfl) : ∃ t, mg x = some (.int z t) := He.int_ok T.X T.G (T.c.fact i h)
theorem TxOk.str (T : TxOk fa fn K mg base) (i : Nat) {x z : Str} (h : fa[i]? = some (.str x z) := by rfl) : ∃ t, mg x = some (.str z t) := He.str_ok T.X T.G (T.c.fact i h)
theorem TxOk.exc (T : TxOk fa fn K mg base) (i : Nat) {x : Str} (h : fa[i]? = some (.exc x) := by rfl) : PySem.W.excIn K (He.ga K x) He.veBase "ValueError.__new__" = true ∧ PySem.W.keepIn K (.ref (He.ga K x)) = true ∧ PySem.W.subIn K (.ref (He.ga K x)) (.type "BaseException") = some true ∧ PySem.W.typeIn K (.ref (He.ga K x)) = some (.type "type") := He.exc_ok (T.c.fact i h)
end
/-- a def of the text -/
def Df (P : Program) (w : World) (K : PySem.W.Frag) (mg : Str → Option Value) (base : Heap) (x : Str) (k : Nat) (ps : List Str) (ms : List Bool) (sem : FSem) : Prop :=
  ∃ f fd, FnOk P w K mg base (L2.CX P w) k f fd ps (liftSp K mg (ioOf ms) ps.length sem) ∧ Binds K fd ps [] ∧ mg x = some (.ref f) ∧ PySem.W.keepIn K (.ref f) = true
theorem funOf {K : PySem.W.Frag} {x q : Str} {st : Stmt} {f : Addr} {fd : FuncData} {kws : List (Str × V)} (F : FunD K x q (defArgs st) (defBody st) (defScope st) [] kws f fd) : Fun K x q st f fd := by
  obtain ⟨oc, od, dV, kV, doc, pm, an, cdv, ct, osl, e, l, c, hd, hk⟩ := F.ex
  rcases hd with ⟨h0, h1⟩ | ⟨h0, _⟩
  · subst h1
    exact ⟨⟨oc, od, kV, doc, pm, an, cdv, ct, osl, e, l, c⟩, F.kp⟩
  · exact (h0 rfl).elim
section
variable {P : Program} {w : World} {K : PySem.W.Frag} {mg : Str → Option Value} {base : Heap} {fa : List He.Fa} {fn : List He.DefD}
theorem dfOk (T : TxOk fa fn K mg base) {x : Str} {st : Stmt} {N ps : List Str} {ms : List Bool} {bd : FS} {k : Nat} (i j : Nat) (sco : FnScope N ps (defScope st)) (hnp : ps.length ≤ N.length)
    (hbi : ∀ (kV doc pm : Value) (an : Option Addr) (cdv ct : Value) (us : List Value), us.length = ps.length → bindArgs (PySem.W.fnOf x x (defArgs st) (defBody st) (defScope st) .none kV doc pm an cdv ct) ⟨us, []⟩ = pure (ps.zip us))
    (hb : ∀ (f : Addr) (cdv : Value) (A : Around) (outer : List Env) (s : Shared) (H : Hp) (vs : List V) (E : XK), Room k (A.deeper (envOfC x (defScope st) s.heap.objs.size f cdv)) →
      PFSs (cxOf (L2.CX P w) P w K mg base N x (defScope st) f cdv A outer s H E) ⟨fun cls d _ H => E cls d H, ioOf ms, L2.start N vs⟩ (defBody st) bd)
    (h : fn[i]? = some (dOf x st) := by rfl) (hg : fa[j]? = some (.glo x) := by rfl) : Df P w K mg base x (k + 1) ps ms (semOf ps.length N.length bd) := by
  obtain ⟨fd, F⟩ := T.c.def_ i h
  exact ⟨_, fd, okF (funOf F) sco hnp fun cdv A outer s H vs E hr => hb _ cdv A outer s H vs E hr, F.bindsN hbi, T.glo j hg, F.kp⟩
/-- a def of which nothing is said yet -/
theorem dfNone (T : TxOk fa fn K mg base) {x : Str} {st : Stmt} {ps : List Str} {ms : List Bool} {k : Nat} (i j : Nat)
    (hbi : ∀ (kV doc pm : Value) (an : Option Addr) (cdv ct : Value) (us : List Value), us.length = ps.length → bindArgs (PySem.W.fnOf x x (defArgs st) (defBody st) (defScope st) .none kV doc pm an cdv ct) ⟨us, []⟩ = pure (ps.zip us))
    (h : fn[i]? = some (dOf x st) := by rfl) (hg : fa[j]? = some (.glo x) := by rfl) : Df P w K mg base x k ps ms (fun _ _ _ => False) := by
  obtain ⟨fd, F⟩ := T.c.def_ i h
  exact ⟨_, fd, ⟨fun vs H Q E ⟨_, _, _, _, _, hl, _⟩ => hl, fun A outer s H args us vs Q E hr he hb hv ⟨_, _, _, _, _, _, _, no, _⟩ => no.elim⟩, F.bindsN hbi, T.glo j hg, F.kp⟩
theorem Df.up {x : Str} {j k : Nat} {ps : List Str} {ms : List Bool} {sem : FSem} (D : Df P w K mg base x j ps ms sem) (h : j ≤ k) : Df P w K mg base x k ps ms sem := by
  obtain ⟨f, fd, F, b, m, kp⟩ := D
  exact ⟨f, fd, F.mono h, b, m, kp⟩
variable {X : Cx} {L : Lv} {e a b : Expr} {es : List Expr} {fr : FA} {pos p : Pos} {x : Str} {ps : List Str} {ms : List Bool} {k : Nat}
theorem pf_callD {sem : FSem} (D : Df X.prog X.w X.K X.mg X.base x k ps ms sem) (hr : Room k X.A) (hx : ∀ σ, PassesAt (L2.CX X.prog X.w) X σ (fun cls d H => L.E cls d σ H)) (ha : PFA X L (e :: es) fr) (hl : ps.length = es.length + 1 := by rfl) (hg : Gl X x := by rfl)
    (hn : ms.length = es.length + 1 := by rfl) (hdb : (x == ("__debug__" : Str)) = false := by decide) (he : starEach (e :: es) X.env = (false, eval e X.env) :: starEach es X.env := by rfl) (hpl : (backTo pos (starEach es X.env)).any (·.1) = false := by rfl) :
    PF X L (.Call (.Name x p) (e :: es) [] pos) (fCall sem ms fr) := by
  obtain ⟨f, fd, F, bi, m, kp⟩ := D
  rw [hl] at F
  exact pf_call F hr m kp bi hx ha hg hn hdb he hpl
theorem _root_.L2.Room.u64 {A : Around} (r : Room k A) : A.units + 64 < cLine := by have := r.un; omega
theorem _root_.L2.Room.u65 {A : Around} (r : Room k A) : A.units + 65 < cLine := by have := r.un; omega
theorem pfs_raise {C : Addr} {m : Str} {j : Nat} {p2 pos' : Pos} (hc : X.calm = true) (tk : Takes X L.E) (gC : X.mg x = some (.ref C))
    (q : PySem.W.excIn X.K C He.veBase "ValueError.__new__" = true ∧ PySem.W.keepIn X.K (.ref C) = true ∧ PySem.W.subIn X.K (.ref C) (.type "BaseException") = some true ∧ PySem.W.typeIn X.K (.ref C) = some (.type "type")) (hg : Gl X x := by rfl) (hdb : (x == ("__debug__" : Str)) = false := by decide) :
    PFS X L (.Raise (some (.Call (.Name x p) [.Constant (.str m) j p2] [] pos)) none pos') (fRaise x) :=
  PS_imp (ps_raise hc tk (pmk_own PySem.F.excBase_ValueError q.1 gC q.2.1 (raises_own q.2.2.1 q.2.2.2) hg hdb)) fun D σ H ⟨Z, Y, s, Ef, r, kk, h, eo⟩ => eo.xx x C Z H σ s (Same.refl _) kk r h gC
theorem pf_globI {i : Int} (h : ∃ t, X.mg x = some (.int i t)) (hg : Gl X x := by rfl) (hd : (x == ("__debug__" : Str)) = false := by decide) : PF X L (.Name x pos) (fC (.int i)) := by
  obtain ⟨t, e⟩ := h
  exact pf_C (pe_glob (v := .int i) hg e ⟨t, rfl⟩ hd) fun _ => .int i
/-- a power of constants -/
theorem pf_powC {i j : Int} (r : Int) {k1 k2 : Nat} {p1 p2 : Pos} (h1 : 0 ≤ j := by decide) (h2 : j ≤ 1000000 := by decide) (h3 : i.natAbs < 2 ^ 64 := by decide) (e : i ^ j.toNat = r := by decide) : PF X L (.BinOp (.Constant (.int i) k1 p1) .Pow (.Constant (.int j) k2 p2) pos) (fC (.int r)) :=
  PE_imp (pf_op fop_pow pf_int pf_int) fun σ H Q ⟨Z, Y, s, Xf, Qf, rl, kk, xo, h, q⟩ => ⟨Z, Y, s, Xf, Qf, rl, kk, xo, ⟨h1, h2, h3, by rw [e]; exact h⟩, q⟩
theorem bb_len : bootBuiltins "len" = some (.builtin "len") := by decide +kernel
theorem bb_abs : bootBuiltins "abs" = some (.builtin "abs") := by decide +kernel
theorem bb_max : bootBuiltins "max" = some (.builtin "max") := by decide +kernel
theorem bb_min : bootBuiltins "min" = some (.builtin "min") := by decide +kernel
theorem bb_all : bootBuiltins "all" = some (.builtin "all") := by decide +kernel
theorem bb_any : bootBuiltins "any" = some (.builtin "any") := by decide +kernel
theorem bb_sorted : bootBuiltins "sorted" = some (.builtin "sorted") := by decide +kernel
theorem bb_int : bootBuiltins "int" = some (.type "int") := by decide +kernel
theorem bb_tuple : bootBuiltins "tuple" = some (.type "tuple") := by decide +kernel
theorem bb_list : bootBuiltins "list" = some (.type "list") := by decide +kernel
theorem bb_bool : bootBuiltins "bool" = some (.type "bool") := by decide +kernel
theorem lawSp {sem : FSem} {H : Hp} {a : Addr} {ns : List Int} {ms : List Bool} (hS : SqL K H a (ns.map V.int)) (hz : ns.length ≤ sizeLine) (h : sem [.d (litD ns)] (fun _ _ => False) (fun r _ => r = .d (.bool true))) :
    liftSp K mg (ioOf ms) 1 sem [.ref a] H (fun v _ => v = .bl true) fun _ _ _ => False := by
  refine ⟨H, fun _ => none, [.d (litD ns)], _, _, rfl, ⟨Same.refl _, fun a q e => (nomatch e), fun _ _ => rfl, fun _ _ e => (nomatch e), rfl, ⟨fun _ => [], ⟨fun i => ?_, fun _ => .nil, fun i j a ha => (nomatch ha), fun i a ha => (nomatch ha)⟩⟩⟩, h, ?_, ?_⟩
  · cases i with
    | zero => exact ⟨rfl, .ref a, rfl, .lit hS hz⟩
    | succ i => exact rfl
  · intro u H' Z' σ' fin r hz kk hl rx nt e
    subst e
    have q := rx.vd
    cases q
    rfl
  · intro n C H' Z' σ' fin _ _ _ _ h _
    exact h.elim
theorem walk_ofBE {l : PySem.W.OpenLaw} {n k : Nat} {q : Program} {loose : List Str} {XP : (Str → Option Value) → Heap → Prop} {YP : World → Heap → Prop} {d : DefRec} {ms : List Bool} {sem : FSem}
    (hn : l.most = some n) (hn2 : n ≤ sizeLine) (hdf : d.params.defaults = []) (hr : Room k callerA)
    (F : ∀ (w : World) (mg : Str → Option Value) (f : Addr) (h : Heap), YP w h → h.Ns mainGlobals mg → mg d.name = some (.ref f) →
      ∃ (K : PySem.W.Frag) (fd : FuncData), K.In h ∧ (∀ (s : Shared) (u : Value), BindsTo s fd ⟨[u], []⟩ [("script", u)]) ∧
        ∀ base : Heap, K.In base → base.Ns mainGlobals mg → FnOk l.prog w K mg base (L2.CX l.prog w) k f fd ["script"] (liftSp K mg (ioOf ms) 1 sem))
    (law : ∀ ns : List Int, ns.length ≤ n → (∀ z ∈ ns, Builtin.Int.intBits z ≤ 1048576) → sem [.d (litD ns)] (fun _ _ => False) (fun r _ => r = .d (.bool true))) :
    PySem.W.WalkO q loose XP YP l.row.toRowW d [] (fun f vs => PySem.call f vs) := by
  refine Att.attach_callB hn hdf fun w s₀ s₁ mg mb f o pm cd doc a vs ns G Y ho hd hcd hmg hobj hints hlen hbits hg => ?_
  obtain ⟨K, fd, KX, hb, hF⟩ := F w mg f _ Y G.T.g hmg
  exact law_call KX G.T.g G.T.b G.T.builtins G.T.nolimit hg hobj hints (Nat.le_trans hlen hn2) hr hF hb (fun H hO hS => lawSp hS (Nat.le_trans hlen hn2) (law ns hlen hbits)) fun H e s' ⟨_, _, _, _, _, _, _, _, _, _, _, _, z⟩ => z
end
end Hs
namespace Hs
open PySem PySem.Spec PyProof.Rows L2
def iEnumL (a : FA) : FI := fun X s Q => a X s fun rs s1 => frzAll rs s1 fun ds s2 => match ds with
  | [.list xs] => Q (enumD xs) s2
  | [.tuple xs] => Q (enumD xs) s2
  | _ => False
def iZipS (a : FA) : FI := fun X s Q => a X s fun rs s1 => frzAll rs s1 fun ds s4 => match ds with
  | [.list xs, .list ys] => Q (zipD xs ys) s4
  | [.tuple xs, .tuple ys] => Q (zipD xs ys) s4
  | _ => False
abbrev mkT (xs : List D) : R := .d (.tuple xs)
abbrev mkL (xs : List D) : R := .own (.l xs)
def fRg1 (mk : List D → R) (a : FE) : FE := fun X s Q => a X s fun r s1 => match r with
  | .d (.int j) => RgOk 0 j ∧ Q (mk (rangeD 0 j.toNat)) s1
  | _ => False
def fRg2 (mk : List D → R) (a b : FE) : FE := fun X s Q => a X s fun r1 s1 => b X s1 fun r2 s2 => match r1, r2 with
  | .d (.int i), .d (.int j) => RgOk i j ∧ Q (mk (rangeD i (j - i).toNat)) s2
  | _, _ => False
section
variable {X : Cx} {L : Lv} {e a b c : Expr} {es : List Expr} {fa fb fc : FE} {fr : FA} {pos p : Pos} {K : PySem.W.Frag} {Z H : Hp}
theorem enumD_get {xs : List D} {i : Nat} {d : D} (h : xs[i]? = some d) : (enumD xs)[i]? = some (.tuple [.int (i : Nat), d]) := by
  unfold enumD
  rw [List.getElem?_map, List.getElem?_zipIdx, h]
  simp
theorem enumD_len {xs : List D} : (enumD xs).length = xs.length := by unfold enumD; simp
theorem walks_enum {q : Addr} {vs : List V} {xs : List D} (h : SqL K Z q vs) (r : RpAll K Z vs xs) : Walks K Z (Ite K q) (enumD xs) where
  stop := fun i H e hi => ⟨vs, e.seq h, by rw [r.length]; rw [enumD_len] at hi; exact hi⟩
  go := fun i H e hi => by
    rw [enumD_len] at hi
    exact ⟨vs, vs[i]'(by rw [r.length]; exact hi), e.seq h, by simp⟩
  yld := fun i H v H' Zc e1 e2 hi ⟨T, x, ev, hT, eh, hv⟩ => by
    subst ev eh
    obtain ⟨d, hd, rd⟩ := r.getV (hv vs ((e1.trans e2).seq h))
    exact ⟨_, upd Zc T _, enumD_get hd, NewR.tup (xs := [.int (i : Nat), d]) e2 hT (by show 2 ≤ 16777216; decide) (.cons (.int _) (.cons (rd.same e1) .nil))⟩
set_option maxHeartbeats 4000000 in
theorem meets_enumerate_new1 {v : Value} {o : Obj} {H : Heap → Prop} (B : Begins v o H) :
    Meets (Builtin.«enumerate.__new__» ⟨[.type "enumerate", v], []⟩) (fun _ R s => H s.heap ∧
      R (.ok (.ret (.ref (s.heap.push o).objs.size))) { s with heap := (s.heap.push o).push { cls := .type "enumerate", data := .fields #[.none, .bool false, .ref s.heap.objs.size, rawInt 0, .none, .none] } }) :=
  .of_wp fun prog w A R s h => by
    obtain ⟨hp, g, d, tk, os⟩ := s; obtain ⟨h1, h⟩ := h
    have hsub := sub_enumerate
    have q1 : ∀ {A' : Around} {E : Value → Shared → Prop} {Q : Value → Shared → Prop}, Q (.ref hp.objs.size) ⟨hp.push o, g, d, tk, os⟩ → wpAny (model prog w) A' (pyIter v) Q E ⟨hp, g, d, tk, os⟩ :=
      fun q => B.iter prog w _ _ ⟨hp, g, d, tk, os⟩ _ h1 q
    wp_walk using q1
    refine wpAny_stack_any fun st => wpAny_pure ?_
    split
    · rename_i c _ _ _ _ _
      cases (c == Value.type "enumerate")
      · wp_walk using q1
        exact ⟨_, rfl, h⟩
      · wp_walk using q1
        exact ⟨_, rfl, h⟩
    · wp_walk using q1
      exact ⟨_, rfl, h⟩
theorem call_enumerate_tuple {prog : Program} {w : World} {A : Around} {E : Value → Shared → Prop} {s : Shared} {l : Addr} {items : Array Value} {Q : Value → Shared → Prop} (hL : s.heap.IsTuple l items)
    (h : ∀ h', IsEnum h' (s.heap.objs.size + 1) s.heap.objs.size 0 .none → h'.IsTupleIter s.heap.objs.size l 0 → h'.objs.size = s.heap.objs.size + 2 →
      (∀ b o, s.heap.get? b = some o → h'.get? b = some o) → Q (.ref (s.heap.objs.size + 1)) { s with heap := h' }) :
    wpAny (model prog w) A (call (.type "enumerate") [.ref l]) Q E s := by
  refine callType_new F.called_enumerate (by decide) (F.typeCall_enumerate_1 _) (F.newCall_enumerate_1 _) (fun obj => F.args_object_init_2 obj _) F.entry_enumerate_new
    (meets_enumerate_new1 (begins_tuple l items)) ⟨hL, ?_⟩
  have hz : (s.heap.push { cls := .type "tuple_iterator", data := .fields #[.ref l, .int 0 0] }).objs.size = s.heap.objs.size + 1 := Heap.size_push ..
  show _ ∧ _
  rw [hz]
  have he : IsEnum ((s.heap.push { cls := .type "tuple_iterator", data := .fields #[.ref l, .int 0 0] }).push
      { cls := .type "enumerate", data := .fields #[.none, .bool false, .ref s.heap.objs.size, rawInt 0, .none, .none] }) (s.heap.objs.size + 1) s.heap.objs.size 0 .none := by
    have := Heap.get?_push_size (s.heap.push { cls := .type "tuple_iterator", data := .fields #[.ref l, .int 0 0] })
      (o := { cls := .type "enumerate", data := .fields #[.none, .bool false, .ref s.heap.objs.size, rawInt 0, .none, .none] }) rfl
    rw [hz] at this; exact this
  refine ⟨⟨_, he, rfl⟩, h _ he ⟨_, Heap.get?_push_of_some _ (Heap.get?_push_size _ rfl), rfl, rfl⟩ (by rw [Heap.size_push, hz]) fun b o x => Heap.get?_push_of_some _ (Heap.get?_push_of_some _ x)⟩
theorem drawn_out {prog : Program} {w : World} {A : Around} (hh : A.handled = none) (it t : Addr) (items : Array Value) (i : Nat) (hi : items[i]? = none) :
    Draws prog w A it [it, t] i (fun _ _ => False) (fun j h => j = i ∧ h.IsTupleIter it t i ∧ h.IsTuple t items) where
  live := fun _ _ st => let ⟨o, ho, _⟩ := st.2.1; ⟨o, ho⟩
  frame := fun _ _ _ st hk => ⟨st.1, st.2.1.at fun o e => hk it (by simp) o e, st.2.2.at fun o e => hk t (by simp) o e⟩
  item := fun j s Q E hj st hQ => by have := st.1; omega
  done := fun s Q E st hE => wpAny_nextOf_tuple_end hh st.2.1 st.2.2 hi hE
def IteT (K : PySem.W.Frag) (a : Addr) : It :=
  ⟨fun i H => ∃ (xs : List V) (x : V), SqT K H a xs ∧ xs[i]? = some x, fun i H v H' => ∃ T x, v = .ref T ∧ H T = none ∧ H' = upd H T (.tup [.int (i : Nat), x]) ∧ ∀ xs, SqT K H a xs → xs[i]? = some x, fun i H => ∃ xs : List V, SqT K H a xs ∧ xs.length ≤ i⟩
theorem turn_enumT {P : Program} {w : World} {K : PySem.W.Frag} {elts : List Expr} {kk : Nat} {tpos : Pos} (a e it : Addr) :
    Turn P w K (.Tuple elts kk tpos) (IteT K a) [e, it] e (fun i h => (∃ old, IsEnum h e it ((i : Nat) : Int) old) ∧ h.IsTupleIter it a i ∧ e ≠ it ∧ e ≠ a ∧ a ≠ it) where
  mem := by simp
  obj := fun i h st b hb => by
    obtain ⟨⟨old, he⟩, ⟨o, ho, hc, hd⟩, _⟩ := st
    have e' : b = e ∨ b = it := by simpa using hb
    rcases e' with z | z
    · rw [z]; exact ⟨_, he, fun v q => nomatch q⟩
    · rw [z]; exact ⟨o, ho, fun v q => by rw [hd] at q; cases q⟩
  keep := fun i h h' st k => let ⟨⟨old, he⟩, hi, hne⟩ := st; ⟨⟨old, k e (by simp) _ he⟩, hi.at fun o q => k it (by simp) o q, hne⟩
  item := by
    intro X hP hw hK hc i pins s σ H E I hf st hg
    subst hP hw hK
    obtain ⟨⟨old, he⟩, hit, hne, hea, hai⟩ := st
    obtain ⟨xs, x, hq, hx⟩ := hg
    obtain ⟨its, rv, p, hz⟩ := I.tuple hq
    obtain ⟨u, hu, ru⟩ := rv.get hx
    have hel : e < s.heap.objs.size := Heap.lt_size he
    have hil : it < s.heap.objs.size := by obtain ⟨_, q, _⟩ := hit; exact Heap.lt_size q
    have hil2 : i < its.toArray.size := by
      have := (List.getElem?_eq_some_iff.mp hu).1
      simpa using this
    refine wpAny_pyNext_enum_itemC (A := X.A) (Draws.tuple (A := X.A.in1) (I.ok.hd hc) it a hai its.toArray) he ⟨hit, p⟩ hil2 hne (by simp [hne, hea]) fun y h' tk hy ho hs' hT hsz hk => ?_
    have hyu : y = u := by
      have : its.toArray[i]? = some u := by simpa using hu
      rw [this] at hy; exact (Option.some.inj hy).symm
    subst hyu
    refine ⟨_, rfl, wpAny_letOwnedTupleGo_enum (s := { s with heap := h', toks := tk + 1 }) ho fun h'' he' sb => ?_⟩
    have hT2 : h''.get? s.heap.objs.size = some { cls := .type "tuple", data := .seq #[.int i tk, y] } := (sb.2 _ (Nat.ne_of_gt hel)).trans hT
    have new : ObjOk X.prog X.w (upd H s.heap.objs.size (.tup [.int (i : Nat), x])) h'' s.heap.objs.size (.tup [.int (i : Nat), x]) :=
      ⟨by show 2 ≤ sizeLine; decide, [.int i tk, y], .cons ⟨_, rfl⟩ (.cons ru .nil), ⟨_, hT2, rfl, _, rfl⟩⟩
    have I1 : Inv X pins σ (upd H s.heap.objs.size (.tup [.int (i : Nat), x])) { s with heap := h'', toks := tk + 1 } :=
      I.turnedNew (ch := [e, it]) (fun b ob hb q => (sb.2 b (fun z => hb (by simp [z]))).trans (hk b ob (fun z => hb (by simp [z])) (fun z => hb (by simp [z])) q)) hf (Nat.le_refl _) new
    refine ⟨.ref s.heap.objs.size, _, I1, rfl, ⟨_, x, rfl, I.hok.fresh (Nat.le_refl _), rfl, fun ys hy => by rw [I.tuple_inj hy hq]; exact hx⟩, ⟨⟨y, ?_⟩, hs'.1.at fun o q => (sb.2 it (Ne.symm hne)).trans q, hne, hea, hai⟩, fun b hb => ?_⟩
    · have e1 : ((i + 1 : Nat) : Int) = (i : Int) + 1 := by omega
      rw [e1]; exact he'
    · have hb' : b < s.heap.objs.size := by
        have e' : b = e ∨ b = it := by simpa using hb
        rcases e' with z | z
        · rw [z]; exact hel
        · rw [z]; exact hil
      rw [upd_ne (Nat.ne_of_lt hb')]
      exact (hf b hb).1
  done := by
    intro X hP hw hK hc i pins s σ H E I hf st hg
    subst hP hw hK
    obtain ⟨⟨old, he⟩, hit, hne, hea, hai⟩ := st
    obtain ⟨xs, hq, hx⟩ := hg
    obtain ⟨its, rv, p, hz⟩ := I.tuple hq
    obtain ⟨f0, f1, f2, f3, f4, f5⟩ := hf it (by simp)
    have hl := rv.length
    refine wpAny_pyNext_enum_endD (A := X.A) (drawn_out (A := X.A.in1) (I.ok.hd hc) it a its.toArray i (by simp; omega)) he ⟨rfl, hit, p⟩ fun h' eb => ⟨rfl, I.turned (t' := s.toks) (fun b o hb q => eb b o hb q) f0 f1 f3 f4 f5⟩
  self := fun A i s Q E st h => let ⟨⟨_, he⟩, _⟩ := st; wpAny_pyIter_enum he h
def iEnumB (K : PySem.W.Frag) (ta : TA) : TI := fun σ H R => ta σ H fun vs H1 => ∃ a xs, vs = [.ref a] ∧ ((SqL K H1 a xs ∧ R (Ite K a) H1) ∨ (SqT K H1 a xs ∧ R (IteT K a) H1))
theorem pi_enumB {X : Cx} {e : Expr} {ta : TA} {p pos tpos : Pos} {elts : List Expr} {kk : Nat} (hg : Gl X "enumerate") (hm : X.mg "enumerate" = none) (ha : PA X [e] ta) (hs : starEach [e] X.env = [(false, eval e X.env)] := by rfl) :
    PI X (.Tuple elts kk tpos) (.Call (.Name "enumerate" p) [e] [] pos) (iEnumB X.K ta) := by
  refine ⟨fun pins s σ H R I h => ?_⟩
  refine Call_ (ld_blt I hg hm boot_enumerate (PyProof.Rows.callWith_type1 (thn (ha.run pos pins s σ H _ I h) fun us s1 ⟨vs, H1, I1, r1, q1⟩ => ?_) hs rfl))
  obtain ⟨a, xs, ex, q⟩ := q1
  subst ex
  cases r1 with
  | cons r rr =>
    cases rr
    cases r
    have apart : ∀ b, b = s1.heap.objs.size + 1 ∨ b = s1.heap.objs.size → s1.heap.objs.size ≤ b := fun b e' => by
      rcases e' with z | z
      · rw [z]; exact Nat.le_add_right _ _
      · rw [z]; exact Nat.le_refl _
    rcases q with ⟨hq, q⟩ | ⟨hq, q⟩
    · obtain ⟨its, rv, p', hz⟩ := I1.list hq
      refine call_enumerate_list p'.isList fun h' he hit hsz hk => wpAny_pyIter_enum he ?_
      have I2 : Inv X pins σ H1 { s1 with heap := h' } := I1.kept (t' := s1.toks) hk
      refine ⟨s1.heap.objs.size + 1, [s1.heap.objs.size + 1, s1.heap.objs.size], _, _, H1, rfl, I2, turn_enum a (s1.heap.objs.size + 1) s1.heap.objs.size, ⟨⟨.none, he⟩, hit, Nat.succ_ne_self _⟩, fun b hb => ?_, q⟩
      have hle := apart b (by simpa using hb)
      exact I1.fpOk hle (I1.hok.fresh hle)
    · obtain ⟨its, rv, p', hz⟩ := I1.tuple hq
      have hal : a < s1.heap.objs.size := by obtain ⟨_, q, _⟩ := p'; exact Heap.lt_size q
      refine call_enumerate_tuple p' fun h' he hit hsz hk => wpAny_pyIter_enum he ?_
      have I2 : Inv X pins σ H1 { s1 with heap := h' } := I1.kept (t' := s1.toks) hk
      refine ⟨s1.heap.objs.size + 1, [s1.heap.objs.size + 1, s1.heap.objs.size], _, _, H1, rfl, I2, turn_enumT a (s1.heap.objs.size + 1) s1.heap.objs.size, ⟨⟨.none, he⟩, hit, Nat.succ_ne_self _, (fun e => Nat.lt_irrefl _ (Nat.lt_trans (Nat.lt_succ_self _) (e ▸ hal))), Nat.ne_of_lt hal⟩, fun b hb => ?_, q⟩
      have hle := apart b (by simpa using hb)
      exact I1.fpOk hle (I1.hok.fresh hle)
theorem walks_enumT {q : Addr} {vs : List V} {xs : List D} (h : SqT K Z q vs) (r : RpAll K Z vs xs) : Walks K Z (IteT K q) (enumD xs) where
  stop := fun i H e hi => ⟨vs, same_sqT e h, by rw [r.length]; rw [enumD_len] at hi; exact hi⟩
  go := fun i H e hi => by
    rw [enumD_len] at hi
    exact ⟨vs, vs[i]'(by rw [r.length]; exact hi), same_sqT e h, by simp⟩
  yld := fun i H v H' Zc e1 e2 hi ⟨T, x, ev, hT, eh, hv⟩ => by
    subst ev eh
    obtain ⟨d, hd, rd⟩ := r.getV (hv vs (same_sqT (e1.trans e2) h))
    exact ⟨_, upd Zc T _, enumD_get hd, NewR.tup (xs := [.int (i : Nat), d]) e2 hT (by show 2 ≤ 16777216; decide) (.cons (.int _) (.cons (rd.same e1) .nil))⟩
theorem pfi_enum {elts : List Expr} {kk : Nat} {tpos : Pos} (hg : Gl X "enumerate") (hm : X.mg "enumerate" = none) (ha : PFA X L [a] fr) (hs : starEach [a] X.env = [(false, eval a X.env)] := by rfl) :
    PFI X L (.Tuple elts kk tpos) (.Call (.Name "enumerate" p) [a] [] pos) (iEnumL fr) := PI_imp (pi_enumB hg hm ha hs) fun σ H R ⟨Z, Y, s, Xf, Qf, r, k, xo, h, q⟩ => by
  refine ⟨Z, Y, s, Xf, _, r, k, xo, h, fun vs H1 Z1 rs s1 hz rx hn h1 => ?_⟩
  obtain ⟨Z2, ds, s2, hz2, rx2, h2⟩ := frzAll_ok (us := []) (ds := []) rx rfl h1
  have ra := rx2.rps
  split at h2
  · cases ra with
    | cons r1 r2 =>
      cases r2
      cases r1 with
      | lst hq hl hr => exact ⟨_, _, rfl, .inl ⟨.inl (same_rd rx2.rel0.zh hq), q _ H1 Z2 s2 _ (hz.trans hz2) rx2.rel0 (walks_enum (.inl hq) hr) h2⟩⟩
  · cases ra with
    | cons r1 r2 =>
      cases r2
      cases r1 with
      | tup hq hl hr =>
        have hq := tupSq (K := X.K) hq
        exact ⟨_, _, rfl, .inr ⟨same_sqT rx2.rel0.zh hq, q _ H1 Z2 s2 _ (hz.trans hz2) rx2.rel0 (walks_enumT hq hr) h2⟩⟩
  · exact h2.elim
theorem rg_all {i j : Int} : RpAll K Z (rgV i j) (rangeD i (j - i).toNat) := by
  unfold rgV rangeD
  generalize (j - i).toNat = n
  induction n with
  | zero => exact .nil
  | succ n ih =>
    rw [List.range_succ, List.map_append, List.map_append]
    exact ih.append (.cons (.int _) .nil)
theorem rg_len {i j : Int} (h : RgOk i j) : (rgV i j).length ≤ sizeLine := by
  rw [rgV_length]
  obtain ⟨_, _, _, _, h5⟩ := h
  show _ ≤ 16777216
  omega
theorem newT {v : List V} {ds : List D} {σ : St} {H : Hp} {Q : VK} {Z Y : Hp} {s : S} {Qf : R → S → Prop} (r : Rel K Z Y H σ s) (hl : v.length ≤ sizeLine) (ra : RpAll K Z v ds) (h : Qf (.d (.tuple ds)) s)
    (q : ∀ v H' Z' r s', Same Z Z' → RelX K Z' Y H' σ s' [v] [r] → Qf r s' → Q v H') : ∀ p, H p = none → Q (.ref p) (upd H p (.tup v)) := fun p hp => by
  have n : NewR K Z H _ _ (.ref p) (.d (.tuple ds)) := .tup r.zh hp hl ra
  exact q _ _ _ _ s n.hz (r.new n) h
theorem newLs {v : List V} {ds : List D} {σ : St} {H : Hp} {Q : VK} {Z Y : Hp} {s : S} {Qf : R → S → Prop} (r : Rel K Z Y H σ s) (hl : v.length ≤ sizeLine) (ra : RpAll K Z v ds) (h : Qf (.own (.l ds)) s)
    (q : ∀ v H' Z' r s', Same Z Z' → RelX K Z' Y H' σ s' [v] [r] → Qf r s' → Q v H') : ∀ p, H p = none → Q (.ref p) (upd H p (.lst v)) := fun p hp => by
  have n : NewR K Z H _ _ (.ref p) (.own (.l ds)) := .lst r.zh hp hl ra
  exact q _ _ _ _ s n.hz (r.new n) h
theorem pf_tRg1 {p2 pos2 : Pos} (hc : X.calm = true) (hm : X.mg "tuple" = none) (hm2 : X.mg "range" = none) (ha : PF X L a fa) (hg : Gl X "tuple" := by rfl) (hg2 : Gl X "range" := by rfl) (hs : starEach [a] X.env = (false, eval a X.env) :: starEach [] X.env := by rfl)
    (na : starEach [.Call (.Name "range" p2) [a] [] pos2] X.env = (false, eval (.Call (.Name "range" p2) [a] [] pos2) X.env) :: starEach [] X.env := by rfl) : PF X L (.Call (.Name "tuple" p) [.Call (.Name "range" p2) [a] [] pos2] [] pos) (fRg1 mkT fa) :=
  PE_imp (pe_tupRg hc hg hm (prg_1 hg2 hm2 ha hs) na) fun σ H Q ⟨Z, Y, s, Xf, Qf, r, k, xo, h, q⟩ => by
  refine ⟨Z, Y, s, Xf, _, r, k, xo, h, fun v H1 Z1 r1 s1 hz rx h1 => ?_⟩
  split at h1
  · rename_i j
    exact ⟨j, rx.vi, h1.1, newT rx.rel0 (rg_len h1.1) rg_all (by rw [Int.sub_zero]; exact h1.2) fun v H' Z' r s' hz' => q v H' Z' r s' (hz.trans hz')⟩
  · exact h1.elim
theorem pf_lRg1 {p2 pos2 : Pos} (hc : X.calm = true) (hm : X.mg "list" = none) (hm2 : X.mg "range" = none) (ha : PF X L a fa) (hg : Gl X "list" := by rfl) (hg2 : Gl X "range" := by rfl) (hs : starEach [a] X.env = (false, eval a X.env) :: starEach [] X.env := by rfl)
    (na : starEach [.Call (.Name "range" p2) [a] [] pos2] X.env = (false, eval (.Call (.Name "range" p2) [a] [] pos2) X.env) :: starEach [] X.env := by rfl) : PF X L (.Call (.Name "list" p) [.Call (.Name "range" p2) [a] [] pos2] [] pos) (fRg1 mkL fa) :=
  PE_imp (pe_listRg hc hg hm (prg_1 hg2 hm2 ha hs) na) fun σ H Q ⟨Z, Y, s, Xf, Qf, r, k, xo, h, q⟩ => by
  refine ⟨Z, Y, s, Xf, _, r, k, xo, h, fun v H1 Z1 r1 s1 hz rx h1 => ?_⟩
  split at h1
  · rename_i j
    exact ⟨j, rx.vi, h1.1, newLs rx.rel0 (rg_len h1.1) rg_all (by rw [Int.sub_zero]; exact h1.2) fun v H' Z' r s' hz' => q v H' Z' r s' (hz.trans hz')⟩
  · exact h1.elim
section
variable {prog : Program} {w : World} {A : Around} {E : Value → Shared → Prop} {s : Shared}
theorem collect_tuple {l : Addr} {vs : List Value} {Q : List Value → Shared → Prop} (hl : s.heap.IsTuple l vs.toArray)
    (h : Q vs { s with heap := (s.heap.push (seqObj "list" #[] 0)).update s.heap.objs.size (Obj.mapSeq (· ++ vs.toArray)) }) (hsz : vs.length ≤ sizeLine := by size_fits) :
    wpAny (model prog w) A (collect (.ref l)) Q E s := by
  obtain ⟨o, ho, hc, n, hd⟩ := id hl
  unfold collect
  refine wpAny_bind (wpAny_runValue (codeAny_builtin entry_proto_collect' ?_))
  show wpAny _ _ (do again (.builtin "list.__iadd__" ⟨[← newList [], .ref l], []⟩)) _ _ s
  refine wpAny_bind (wpAny_newList (wpAny_pure ⟨Code.quiet_builtin _ (by decide +kernel), codeAny_builtin entry_list_iadd' ?_⟩))
  show wpAny _ _ (Builtin.List.listExtendWith (.ref s.heap.objs.size) (.ref l) (.ref s.heap.objs.size)) _ _ { s with heap := s.heap.push (seqObj "list" #[] 0) }
  unfold Builtin.List.listExtendWith
  have ho' : (s.heap.push (seqObj "list" #[] 0)).get? l = some o := Heap.get?_push_of_some _ ho
  refine wpAny_bind (wpAny_typeOf (T := "tuple") ⟨o, ho', hc⟩ ?_)
  have ht : (Value.type "tuple" == Value.type "tuple") = true := by rfl
  rw [if_pos (by rw [ht]; simp)]
  refine wpAny_bind (listItems_at ho' hd ?_)
  refine wpAny_bind (listItems_at (xs := #[]) (n := 0) (Heap.get?_push_size _ rfl) rfl ?_)
  rw [if_neg (by simp)]
  refine wpAny_bind (listUpdate_at (xs := #[]) (n := 0) (Heap.get?_push_size _ rfl) rfl ?_ (Nat.zero_le _) (by show (#[] ++ vs.toArray).size ≤ sizeLine + 1; simp only [Array.size_append, List.size_toArray, List.length_nil]; omega))
  refine wpAny_pure ?_
  show wpAny (model prog w) A (do
      let o ← load s.heap.objs.size
      match o.data with
      | .seq xs _ => pure xs.toList
      | _ => unsupported "internal:collect") Q E { s with heap := (s.heap.push (seqObj "list" #[] 0)).update s.heap.objs.size (Obj.mapSeq (· ++ vs.toArray)) }
  refine wpAny_bind (wpAny_load (get?_update_seq (Heap.get?_push_size _ rfl) _) ?_)
  show wpAny _ _ (pure ((#[] : Array Value) ++ vs.toArray).toList) Q E _
  rw [show ((#[] : Array Value) ++ vs.toArray).toList = vs by simp]
  exact wpAny_pure h
theorem sorted_intsTup {l : Addr} {vs : List Value} {ns : List Int} {Q : Value → Shared → Prop} (hl : s.heap.IsTuple l vs.toArray) (hI : IntsAre vs ns) (hL : vs.length ≤ sizeLine)
    (h : ∀ (out : Array Value) (ns' : List Int), IntsAre out.toList ns' → ns'.Perm ns → ns'.Pairwise (· ≤ ·) → Q (.ref (s.heap.objs.size + 1)) { s with heap := sortedAll s.heap vs out }) :
    wpAny (model prog w) A (call (.builtin "sorted") [.ref l]) Q E s := by
  refine Calls.call_function_entry kind_sorted plain_sorted entry_sorted (args_sorted1 _) ?_
  unfold Builtin.«sorted»
  refine wpAny_bind (m := checkCount "sorted" 1 1 _) (wpAny_pure ?_)
  refine wpAny_bind (collect_tuple hl ?_)
  refine wpAny_bind (wpAny_newList ?_)
  have hsz : ((s.heap.push (seqObj "list" #[] 0)).update s.heap.objs.size (Obj.mapSeq (· ++ vs.toArray))).objs.size = s.heap.objs.size + 1 := by
    rw [Heap.size_update, size_push']
  have hoL : (((s.heap.push (seqObj "list" #[] 0)).update s.heap.objs.size (Obj.mapSeq (· ++ vs.toArray))).push (seqObj "list" vs.toArray 0)).get? (s.heap.objs.size + 1) = some (seqObj "list" vs.toArray 0) := by
    rw [← hsz]; exact Heap.get?_push_size _ rfl
  show wpAny _ _ _ _ _ { s with heap := ((s.heap.push (seqObj "list" #[] 0)).update s.heap.objs.size (Obj.mapSeq (· ++ vs.toArray))).push (seqObj "list" vs.toArray 0) }
  rw [hsz]
  refine wpAny_bind (wpAny_holding (wpAny_call_entry slot_list_sort ⟨_, hoL, rfl⟩ entry_list_sort (list_sort_treeAny hoL hI hL fun out ns' a1 a2 a3 => ⟨_, rfl, ?_⟩) (args_list_sort _)))
  exact wpAny_pure ⟨_, rfl, h out ns' a1 a2 a3⟩
end
def rSortedT (K : PySem.W.Frag) : List V → Hp → VK → Prop := fun vs H Q => ∃ (a : Addr) (ns : List Int), vs = [V.ref a] ∧ SqT K H a (ns.map V.int) ∧
  ∀ (ns' : List Int) (p : Addr), ns'.Perm ns → ns'.Pairwise (· ≤ ·) → H p = none → Q (.ref p) (upd H p (.lst (ns'.map V.int)))
theorem cr_sortedT {X : Cx} : CallR X (.builtin "sorted") (rSortedT X.K) := by
  intro pins s σ H vs us Q I r h
  obtain ⟨a, ns, rfl, hs, q⟩ := h
  obtain ⟨its, rv, hl, hz⟩ := I.tuple hs
  rw [Vals.ref1 r]
  have hi := rv.ints
  have hz' : ns.length ≤ sizeLine := by rw [List.length_map] at hz; exact hz
  refine sorted_intsTup hl hi (by rw [hi.length]; exact hz') fun out ns' h1 h2 h3 => ?_
  obtain ⟨ep, he'⟩ := PyProof.Rows.sortedAll_at s.heap its out
  have hlen : (ns'.map V.int).length ≤ sizeLine := by rw [List.length_map, h2.length_eq]; exact hz'
  exact ⟨.ref _, upd H (s.heap.objs.size + 1) (.lst (ns'.map V.int)), I.laid (t' := s.toks) (fun _ _ => PyProof.Rows.sortedAll_old) (Nat.le_succ _) ⟨hlen, out.toList, ep, vals_of_ints h1, he'⟩, rfl, q ns' _ h2 h3 (I.hok.fresh (Nat.le_succ _))⟩
theorem fb_sortI : CallR X (.builtin "sorted") (rFN X.K bSortI) := by
  intro pins s σ H vs us Q I rv ⟨Z, ds, Qf, hz, rr, g, q⟩
  unfold bSortI at g
  split at g
  · split at g
    · rename_i eb
      obtain ⟨v, rfl, r1⟩ := rr.one
      obtain ⟨p, vs, rfl, h1, h2, h3⟩ := r1.list hz
      rw [intsOf_eq eb] at h3
      have h2' := h3.length
      rw [h3.ints] at h1 h2
      refine cr_sortedI pins s σ H _ us Q I rv ⟨p, _, rfl, .inl h1, fun ns' p' hp hs hn => ?_⟩
      exact q _ _ Z _ (.lst hz hn (by rw [List.length_map] at h2 ⊢; rw [hp.length_eq]; exact h2) (RpAll.of_ints ns')) (g ns' hp hs)
    · exact g.elim
  · exact g.elim
theorem pairOf_eq {d : D} {p : Int × Int} (h : pairOf d = some p) : d = pairD p := by
  unfold pairOf at h
  split at h
  · cases h; rfl
  · cases h
theorem pairsOf_eq : ∀ {xs : List D} {ps : List (Int × Int)}, pairsOf xs = some ps → xs = ps.map pairD
  | [], ps, h => by cases h; rfl
  | x :: xs, ps, h => by
    have h : (match pairOf x, pairsOf xs with | some p, some ps => some (p :: ps) | _, _ => none) = some ps := h
    cases e : pairOf x with
    | none => rw [e] at h; cases h
    | some p =>
      cases e2 : pairsOf xs with
      | none => rw [e, e2] at h; cases h
      | some qs =>
        rw [e, e2] at h
        cases h
        rw [pairOf_eq e, pairsOf_eq e2]; rfl
theorem rp_pair {v : V} {p : Int × Int} (r : Rp K Z v (pairD p)) : ∃ t, v = .ref t ∧ SqT K Z t [.int p.1, .int p.2] := by
  unfold pairD at r
  cases r with
  | tup h z a =>
    cases a with
    | cons a1 a2 =>
      cases a2 with
      | cons a2 a3 =>
        cases a3; cases a1; cases a2
        exact ⟨_, rfl, tupSq h⟩
open Classical in
/-- which pair stands at an address of the frozen part -/
noncomputable def keyZ (K : PySem.W.Frag) (Z : Hp) (v : V) : Int × Int := if h : ∃ p, Rp K Z v (pairD p) then h.choose else (0, 0)
theorem sorted_pairs {pins : List (Addr × Obj)} {s : Shared} {σ : St} {H : Hp} {q : Addr} {vs : List V} {Q : VK} (k : V → Int × Int) (I : Inv X pins σ H s) (hs : SqL X.K H q vs) (hx : ∀ x ∈ vs, ∃ t, x = V.ref t ∧ SqT X.K H t [.int (k x).1, .int (k x).2])
    (g : ∀ ys p, SrtO.Srtd (ltP k) ys → SrtO.Stb (ltP k) ys vs → H p = none → Q (.ref p) (upd H p (.lst ys))) : wpAny (model X.prog X.w) X.A (call (.builtin "sorted") [.ref q]) (EP X pins σ Q) X.xe s := by
  obtain ⟨its, rv, hl, hz⟩ := I.list hs
  obtain ⟨e1, e2⟩ := refs_back rv fun x m => by
    obtain ⟨t, e, _⟩ := hx x m
    exact ⟨t, e⟩
  have len := rv.length
  refine SrtO.sorted_pairsO (k := fun u => k (backV u)) hl.isList (by rw [← len]; exact hz) ?_ ?_
  · intro v hv
    obtain ⟨t, rfl⟩ := e2 v hv
    have hm : V.ref t ∈ vs := by
      rw [e1]
      exact List.mem_map.mpr ⟨_, hv, rfl⟩
    obtain ⟨t', e, ht⟩ := hx _ hm
    cases e
    obtain ⟨us, ru, ⟨o, ho, hc, n, hd⟩, _⟩ := I.tuple ht
    obtain ⟨u1, u2, rfl, ri, rj⟩ := vals2 ru
    obtain ⟨t1, rfl⟩ := ri
    obtain ⟨t2, rfl⟩ := rj
    exact ⟨t, o, t1, t2, n, rfl, ho, hc, hd⟩
  · intro h' d out h1 h2 kp hd ⟨n, hn⟩
    have back : ∀ u ∈ out, ∃ a, u = Value.ref a := fun u hu => e2 u (h2.perm.mem_iff.mp hu)
    have hb : SrtO.Stb (ltP k) (out.map backV) vs := by
      rw [e1]
      exact SrtO.Stb.map (ltP_swo k) backV h2
    refine ⟨.ref d, upd H d (.lst (out.map backV)), I.laid (t' := s.toks) kp hd ⟨?_, out, n, vals_back back, hn⟩, rfl, g _ d (SrtO.srtd_map h1) hb (I.hok.fresh hd)⟩
    rw [hb.len]
    exact hz
theorem rp_pair_key {v : V} {p : Int × Int} (one : ∀ (t : Addr) (xs ys : List V), SqT K Z t xs → SqT K Z t ys → xs = ys) (r : Rp K Z v (pairD p)) : keyZ K Z v = p := by
  classical
  have h : ∃ p, Rp K Z v (pairD p) := ⟨p, r⟩
  unfold keyZ
  rw [dif_pos h]
  have hc := h.choose_spec
  generalize h.choose = p' at hc
  obtain ⟨t, rfl, h1⟩ := rp_pair r
  obtain ⟨t', e, h2⟩ := rp_pair hc
  cases e
  have : ([.int p.1, .int p.2] : List V) = [.int p'.1, .int p'.2] := one t _ _ h1 h2
  injection this with a1 a2
  injection a2 with a2 _
  injection a1 with a1
  injection a2 with a2
  exact Prod.ext a1.symm a2.symm
theorem fb_sortP : CallR X (.builtin "sorted") (rFN X.K bSortP) := by
  intro pins s σ H vs us Q I rv ⟨Z, ds, Qf, hz, rr, g, q⟩
  unfold bSortP at g
  split at g
  · split at g
    · rename_i eb
      obtain ⟨v, rfl, r1⟩ := rr.one
      obtain ⟨p, vs, rfl, h1, h2, h3⟩ := r1.list hz
      rw [pairsOf_eq eb] at h3
      obtain ⟨u, rfl, ru⟩ := vals1 rv
      cases ru
      have each : ∀ {vs : List V} {ps : List (Int × Int)}, RpAll X.K Z vs (ps.map pairD) → (∀ x ∈ vs, ∃ t, x = V.ref t ∧ SqT X.K H t [.int (keyZ X.K Z x).1, .int (keyZ X.K Z x).2]) ∧ vs.map (keyZ X.K Z) = ps ∧ ∀ x ∈ vs, Rp X.K Z x (pairD (keyZ X.K Z x)) := by
        intro vs
        induction vs with
        | nil =>
          intro ps ra
          cases ps with
          | nil => exact ⟨fun x hx => (nomatch hx), rfl, fun x hx => (nomatch hx)⟩
          | cons p ps => cases ra
        | cons v vs ih =>
          intro ps ra
          cases ps with
          | nil => cases ra
          | cons p ps =>
            cases ra with
            | cons a1 a2 =>
              obtain ⟨i1, i2, i3⟩ := ih a2
              have ek := rp_pair_key (fun t xs ys a b => I.tuple_inj (same_sqT hz a) (same_sqT hz b)) a1
              obtain ⟨t, et, ht⟩ := rp_pair a1
              refine ⟨fun x hx => ?_, by rw [List.map_cons, ek, i2], fun x hx => ?_⟩
              · rcases List.mem_cons.mp hx with rfl | hx
                · exact ⟨t, et, by rw [ek]; exact same_sqT hz ht⟩
                · exact i1 x hx
              · rcases List.mem_cons.mp hx with rfl | hx
                · rw [ek]; exact a1
                · exact i3 x hx
      obtain ⟨i1, i2, i3⟩ := each h3
      refine sorted_pairs (keyZ X.K Z) I (.inl h1) i1 fun ys p' hs hb hn => ?_
      have hp := hb.perm
      have ry : RpAll X.K Z ys ((ys.map (keyZ X.K Z)).map pairD) := by
        have all : ∀ x ∈ ys, Rp X.K Z x (pairD (keyZ X.K Z x)) := fun x hx => i3 x (hp.mem_iff.mp hx)
        clear hs hb hn hp
        induction ys with
        | nil => exact .nil
        | cons y ys ih => exact .cons (all y List.mem_cons_self) (ih fun x hx => all x (List.mem_cons_of_mem _ hx))
      refine q _ _ Z _ (.lst hz hn (by rw [hp.length_eq]; exact h2) ry) (g _ (by rw [← i2]; exact hp.map _) ?_)
      have hs' : ys.Pairwise fun x y => ltP (keyZ X.K Z) y x = false := hs
      rw [List.pairwise_map]
      refine hs'.imp fun {x y} h => ?_
      have h := SrtO.lexB_no.mp h
      unfold ltPr
      simp only [Bool.or_eq_false_iff, Bool.and_eq_false_iff, decide_eq_false_iff_not, beq_eq_false_iff_ne, ne_eq]
      omega
    · exact g.elim
  · exact g.elim
end
end Hs
namespace Hs
open PySem PySem.Spec PyProof.Rows L2
/-- the order of tuples of ints -/
def lexL : List Int → List Int → Bool
  | [], [] => false
  | [], _ :: _ => true
  | _ :: _, [] => false
  | a :: as, b :: bs => if a = b then lexL as bs else decide (a < b)
theorem lexL_cons {a b : Int} {as bs : List Int} : lexL (a :: as) (b :: bs) = if a = b then lexL as bs else decide (a < b) := rfl
theorem lexL_asym : ∀ {as bs : List Int}, lexL as bs = true → lexL bs as = false
  | [], [], h => by cases h
  | [], _ :: _, _ => rfl
  | _ :: _, [], h => by cases h
  | a :: as, b :: bs, h => by
    rw [lexL_cons] at h ⊢
    by_cases e : a = b
    · rw [if_pos e] at h
      rw [if_pos e.symm]
      exact lexL_asym h
    · rw [if_neg e] at h
      rw [if_neg (Ne.symm e)]
      have := of_decide_eq_true h
      exact decide_eq_false (by omega)
theorem lexL_tr : ∀ {as bs cs : List Int}, lexL as bs = false → lexL bs cs = false → lexL as cs = false
  | [], [], _, _, h => h
  | [], _ :: _, _, h, _ => by cases h
  | _ :: _, [], [], _, _ => rfl
  | _ :: _, [], _ :: _, _, h => by cases h
  | _ :: _, _ :: _, [], _, _ => rfl
  | a :: as, b :: bs, c :: cs, h1, h2 => by
    rw [lexL_cons] at h1 h2 ⊢
    by_cases e1 : a = b
    · rw [if_pos e1] at h1
      subst e1
      by_cases e2 : a = c
      · rw [if_pos e2] at h2 ⊢
        exact lexL_tr h1 h2
      · rw [if_neg e2] at h2 ⊢
        exact h2
    · rw [if_neg e1] at h1
      have l1 := of_decide_eq_false h1
      by_cases e2 : b = c
      · subst e2
        rw [if_neg e1]
        exact h1
      · rw [if_neg e2] at h2
        have l2 := of_decide_eq_false h2
        rw [if_neg (by omega)]
        exact decide_eq_false (by omega)
theorem lexL_eq : ∀ {as bs : List Int}, lexL as bs = false → lexL bs as = false → as = bs
  | [], [], _, _ => rfl
  | [], _ :: _, h, _ => by cases h
  | _ :: _, [], _, h => by cases h
  | a :: as, b :: bs, h1, h2 => by
    rw [lexL_cons] at h1 h2
    by_cases e : a = b
    · rw [if_pos e] at h1
      rw [if_pos e.symm] at h2
      rw [e, lexL_eq h1 h2]
    · rw [if_neg e] at h1
      rw [if_neg (Ne.symm e)] at h2
      have := of_decide_eq_false h1
      have := of_decide_eq_false h2
      omega
theorem lexL_swo {α : Type} (k : α → List Int) : SrtO.Swo fun v u => lexL (k v) (k u) := ⟨fun x y h => lexL_asym h, fun x y z h1 h2 => lexL_tr h2 h1⟩
section
variable {prog : Program} {w : World} {A : Around} {E : Value → Shared → Prop} {s : Shared}
def IsTupI (h : Heap) (v : Value) (ns : List Int) : Prop := ∃ a o us n, v = .ref a ∧ h.get? a = some o ∧ o.cls = .type "tuple" ∧ o.data = .seq (List.toArray us) n ∧ IntsAre us ns
theorem IsTupI.keeps {h h' : Heap} {v : Value} {ns : List Int} (p : IsTupI h v ns) (k : ∀ b o, h.get? b = some o → o.cls = .type "tuple" → h'.get? b = some o) : IsTupI h' v ns := by
  obtain ⟨a, o, us, n, e, ho, hc, hd, hi⟩ := p
  exact ⟨a, o, us, n, e, k _ _ ho hc, hc, hd, hi⟩
theorem kat_tups {fin : Bool} : ∀ {xs ys : List Value} {ns ms : List Int} (i : Nat), IntsAre xs ns → IntsAre ys ms → fin = decide (ns.length < ms.length) →
    PySem.W.KatLex prog w A true fin (fun r s' => s' = s ∧ r = lexL ns ms) (xs.zip ys) i s
  | _, _, _, _, _, .nil, .nil, e => PySem.W.kat_nil ⟨rfl, e⟩
  | _, _, _, _, _, .nil, .cons _ _ _, e => PySem.W.kat_nil ⟨rfl, by rw [e]; exact decide_eq_true (by simp)⟩
  | _, _, _, _, _, .cons _ _ _, .nil, e => PySem.W.kat_nil ⟨rfl, by rw [e]; exact decide_eq_false (by simp)⟩
  | _, _, _, _, i, .cons x t hx, .cons y u hy, e => by
    refine PySem.W.kat_cons (SeqAt.EqAt.int_int x t y u prog w _ _ ?_)
    rw [lexL_cons]
    refine PySem.W.kat_go (fun e1 => ?_) (fun e1 => ?_)
    · have ex : x = y := by simpa using e1
      rw [if_pos ex]
      exact PySem.W.kat_yes (kat_tups (i + 1) hx hy (by rw [e]; simp))
    · have ex : ¬ x = y := by simpa using e1
      rw [if_neg ex]
      exact PySem.W.kat_no (TS.oneLt_ints _ ⟨rfl, rfl⟩)
theorem tup_cmp {vs : List Value} {k : Value → List Int} (hp : ∀ v ∈ vs, IsTupI s.heap v (k v)) : SrtO.Cmp prog w A s (tuples' true) (fun p => p.1 ∈ vs) (SrtO.lt2 fun v u => lexL (k v) (k u)) := by
  intro p q hm hm'
  obtain ⟨a, o, us, n, e, ho, hc, hd, hi⟩ := hp _ hm
  obtain ⟨a', o', us', n', e', ho', hc', hd', hi'⟩ := hp _ hm'
  show wpAny (model prog w) A (keyLt' (tuples' true) p.1 q.1) (fun r s' => s' = s ∧ r = lexL (k p.1) (k q.1)) (fun _ _ => False) s
  generalize k p.1 = ns at hi ⊢
  generalize k q.1 = ms at hi' ⊢
  rw [e, e']
  refine PySem.W.kat_lt ho hd ho' hd' ?_
  exact kat_tups 0 hi hi' (by rw [List.size_toArray, List.size_toArray, hi.length, hi'.length])
theorem firstsT {h : Heap} : ∀ {vs : List Value} {k : Value → List Int}, (∀ v ∈ vs, IsTupI h v (k v) ∧ k v ≠ []) → ∃ fs : List Value, PySem.W.KatTups h vs fs ∧ fs.length = vs.length ∧ ∀ f ∈ fs, ∃ x t, f = Value.int x t
  | [], _, _ => ⟨[], PySem.W.KatTups.nil, rfl, fun _ hm => by simp at hm⟩
  | v :: vs, k, hp => by
    obtain ⟨fs, h1, h2, h3⟩ := firstsT (vs := vs) fun v' hm => hp v' (List.mem_cons_of_mem _ hm)
    obtain ⟨⟨a, o, us, n, e, ho, hc, hd, hi⟩, hne⟩ := hp v (List.mem_cons_self ..)
    generalize k v = ns at hi hne
    subst e
    cases hi with
    | nil => exact (hne rfl).elim
    | cons x t hi =>
      refine ⟨.int x t :: fs, PySem.W.KatTups.cons ho hc hd rfl h1, by rw [List.length_cons, List.length_cons, h2], fun f hm => ?_⟩
      rcases List.mem_cons.mp hm with rfl | hm
      · exact ⟨x, t, rfl⟩
      · exact h3 f hm
theorem tups_sortableO {a : Addr} {vs : List Value} {k : Value → List Int} (h0 : 0 < vs.length) (hp : ∀ v ∈ vs, IsTupI s.heap v (k v) ∧ k v ≠ []) (ha : ∀ o, s.heap.get? a = some o → o.cls ≠ .type "tuple") : SrtO.SortableO prog w A s a vs fun v u => lexL (k v) (k u) := by
  intro h' keep
  have hp' : ∀ v ∈ vs, IsTupI h' v (k v) ∧ k v ≠ [] := fun v hm => ⟨(hp v hm).1.keeps fun b o e c => keep b o (fun z => by subst z; exact ha o e c) e, (hp v hm).2⟩
  obtain ⟨fs, h1, h2, h3⟩ := firstsT hp'
  refine ⟨tuples' true, fun Q E hq => ?_, tup_cmp fun v hv => (hp' v hv).1⟩
  refine PySem.W.kat_kind (T := .type "int") h1 (by omega) (fun f hm => ?_) (by rfl) ?_
  · obtain ⟨x, t, rfl⟩ := h3 f hm
    exact PySem.W.Looks.now
  · have e : (Value.type "int" != Value.type "tuple") = true := by first | decide +kernel | rfl | decide
    rw [e]
    exact hq
theorem sorted_tupsO {l : Addr} {vs : List Value} {k : Value → List Int} {Q : Value → Shared → Prop} (hl : s.heap.IsList l vs.toArray) (hz : vs.length ≤ sizeLine) (hp : ∀ v ∈ vs, IsTupI s.heap v (k v)) (hne : 2 ≤ vs.length → ∀ v ∈ vs, k v ≠ [])
    (h : ∀ (h' : Heap) (d : Addr) (out : List Value), SrtO.Srtd (fun v u => lexL (k v) (k u)) out → SrtO.Stb (fun v u => lexL (k v) (k u)) out vs → (∀ b o, s.heap.get? b = some o → h'.get? b = some o) → s.heap.objs.size ≤ d → (∃ n, h'.get? d = some (seqObj "list" out.toArray n)) → Q (.ref d) { s with heap := h' }) :
    wpAny (model prog w) A (call (.builtin "sorted") [.ref l]) Q E s := by
  refine SrtO.sorted_ord (lexL_swo k) hl hz (fun h2 h₁ a ha kk => ?_) fun out hs hb => ?_
  · refine tups_sortableO (s := { s with heap := h₁ }) (by omega) (fun v hm => ⟨(hp v hm).keeps fun b o e _ => (kk b o e).2, hne h2 v hm⟩) fun o e => ?_
    have e' : some o = some (seqObj "list" vs.toArray 0) := e.symm.trans ha
    cases e'
    intro c
    exact absurd (Value.type.inj c) (by decide)
  · exact h _ _ out hs hb (fun b o e => sortedAll_old e) (Nat.le_succ _) (sortedAll_at s.heap vs out.toArray)
end
section
variable {X : Cx}
theorem sorted_tups {pins : List (Addr × Obj)} {s : Shared} {σ : St} {H : Hp} {q : Addr} {vs : List V} {Q : VK} (k : V → List Int) (I : Inv X pins σ H s) (hs : SqL X.K H q vs) (hx : ∀ x ∈ vs, ∃ t, x = V.ref t ∧ SqT X.K H t ((k x).map V.int)) (hne : 2 ≤ vs.length → ∀ x ∈ vs, k x ≠ [])
    (g : ∀ ys p, SrtO.Srtd (fun x y => lexL (k x) (k y)) ys → SrtO.Stb (fun x y => lexL (k x) (k y)) ys vs → H p = none → Q (.ref p) (upd H p (.lst ys))) : wpAny (model X.prog X.w) X.A (call (.builtin "sorted") [.ref q]) (EP X pins σ Q) X.xe s := by
  obtain ⟨its, rv, hl, hz⟩ := I.list hs
  obtain ⟨e1, e2⟩ := refs_back rv fun x m => by
    obtain ⟨t, e, _⟩ := hx x m
    exact ⟨t, e⟩
  have len := rv.length
  have mem : ∀ v ∈ its, backV v ∈ vs := fun v hv => by
    rw [e1]
    exact List.mem_map.mpr ⟨_, hv, rfl⟩
  refine sorted_tupsO (k := fun u => k (backV u)) hl.isList (by rw [← len]; exact hz) ?_ (fun h2 v hv => hne (by rw [len]; exact h2) _ (mem v hv)) ?_
  · intro v hv
    have hm := mem v hv
    obtain ⟨t, rfl⟩ := e2 v hv
    obtain ⟨t', e, ht⟩ := hx _ hm
    have et : t' = t := by
      have : V.ref t = V.ref t' := e
      cases this; rfl
    subst et
    obtain ⟨us, ru, ⟨o, ho, hc, n, hd⟩, _⟩ := I.tuple ht
    exact ⟨t', o, us, n, rfl, ho, hc, hd, ints_of_vals ru⟩
  · intro h' d out h1 h2 kp hd ⟨n, hn⟩
    have back : ∀ u ∈ out, ∃ a, u = Value.ref a := fun u hu => e2 u (h2.perm.mem_iff.mp hu)
    have hb : SrtO.Stb (fun x y => lexL (k x) (k y)) (out.map backV) vs := by
      rw [e1]
      exact SrtO.Stb.map (lexL_swo k) backV h2
    refine ⟨.ref d, upd H d (.lst (out.map backV)), I.laid (t' := s.toks) kp hd ⟨?_, out, n, vals_back back, hn⟩, rfl, g _ d (SrtO.srtd_map h1) hb (I.hok.fresh hd)⟩
    rw [hb.len]
    exact hz
/-- items as tuples of ints -/
def tupI (ns : List Int) : D := .tuple (ns.map .int)
def tupOf : D → Option (List Int)
  | .tuple xs => intsOf xs
  | _ => none
def tupsOf : List D → Option (List (List Int))
  | [] => some []
  | x :: xs => match tupOf x, tupsOf xs with
    | some n, some ns => some (n :: ns)
    | _, _ => none
def bSortT : VN := fun ds Q => match ds with
  | [.list xs] => match tupsOf xs with
    | some nss => (2 ≤ nss.length → ∀ ns ∈ nss, ns ≠ []) ∧ ∀ mss : List (List Int), mss.Perm nss → mss.Pairwise (fun a b => lexL b a = false) → Q (.own (.l (mss.map tupI)))
    | none => False
  | _ => False
theorem tupOf_eq {d : D} {ns : List Int} (h : tupOf d = some ns) : d = tupI ns := by
  cases d with
  | tuple xs => rw [intsOf_eq (show intsOf xs = some ns from h)]; rfl
  | _ => cases h
theorem tupsOf_eq : ∀ {xs : List D} {nss : List (List Int)}, tupsOf xs = some nss → xs = nss.map tupI
  | [], nss, h => by cases h; rfl
  | x :: xs, nss, h => by
    have h : (match tupOf x, tupsOf xs with | some n, some ns => some (n :: ns) | _, _ => none) = some nss := h
    cases e : tupOf x with
    | none => rw [e] at h; cases h
    | some p =>
      cases e2 : tupsOf xs with
      | none => rw [e, e2] at h; cases h
      | some qs =>
        rw [e, e2] at h
        cases h
        rw [tupOf_eq e, tupsOf_eq e2]; rfl
section
variable {prog : Program} {w : World} {A : Around} {E : Value → Shared → Prop} {s : Shared}
open SrtO in
theorem sorted_ordT {l : Addr} {vs : List Value} {ltv : Value → Value → Bool} {Q : Value → Shared → Prop} (O : Swo ltv) (hl : s.heap.IsTuple l vs.toArray) (hz : vs.length ≤ sizeLine)
    (hS : 2 ≤ vs.length → ∀ (h₁ : Heap) (a : Addr), h₁.get? a = some (seqObj "list" vs.toArray 0) → (∀ b o, s.heap.get? b = some o → b ≠ a ∧ h₁.get? b = some o) → SortableO prog w A.in1.in1 { s with heap := h₁ } a vs ltv)
    (h : ∀ out : List Value, Srtd ltv out → Stb ltv out vs → Q (.ref (s.heap.objs.size + 1)) { s with heap := sortedAll s.heap vs out.toArray }) :
    wpAny (model prog w) A (call (.builtin "sorted") [.ref l]) Q E s := by
  refine Calls.call_function_entry kind_sorted plain_sorted entry_sorted (args_sorted1 _) ?_
  unfold Builtin.«sorted»
  refine wpAny_bind (m := checkCount "sorted" 1 1 _) (wpAny_pure ?_)
  refine wpAny_bind (collect_tuple hl ?_ hz)
  refine wpAny_bind (wpAny_newList ?_ hz)
  have hsz : ((s.heap.push (seqObj "list" #[] 0)).update s.heap.objs.size (Obj.mapSeq (· ++ vs.toArray))).objs.size = s.heap.objs.size + 1 := by
    rw [Heap.size_update, size_push']
  have hoL : (((s.heap.push (seqObj "list" #[] 0)).update s.heap.objs.size (Obj.mapSeq (· ++ vs.toArray))).push (seqObj "list" vs.toArray 0)).get? (s.heap.objs.size + 1) = some (seqObj "list" vs.toArray 0) := by
    rw [← hsz]; exact Heap.get?_push_size _ rfl
  have keep : ∀ b o, s.heap.get? b = some o → b ≠ s.heap.objs.size + 1 ∧ (((s.heap.push (seqObj "list" #[] 0)).update s.heap.objs.size (Obj.mapSeq (· ++ vs.toArray))).push (seqObj "list" vs.toArray 0)).get? b = some o := fun b o q => by
    have hlt : b < s.heap.objs.size := Heap.lt_size q
    refine ⟨Nat.ne_of_lt (Nat.lt_succ_of_lt hlt), Heap.get?_push_of_some _ ?_⟩
    rw [Heap.get?_update_ne _ _ _ _ (Nat.ne_of_lt hlt)]
    exact Heap.get?_push_of_some _ q
  show wpAny _ _ _ _ _ { s with heap := ((s.heap.push (seqObj "list" #[] 0)).update s.heap.objs.size (Obj.mapSeq (· ++ vs.toArray))).push (seqObj "list" vs.toArray 0) }
  rw [hsz]
  refine wpAny_bind (wpAny_holding (wpAny_call_entry slot_list_sort ⟨_, hoL, rfl⟩ entry_list_sort (list_sort_ord O hoL hz (fun h2 => hS h2 _ _ hoL keep) fun out hs hb => ⟨_, rfl, ?_⟩) (args_list_sort _)))
  exact wpAny_pure ⟨_, rfl, h out hs hb⟩
open SrtO in
theorem sorted_pairsOT {l : Addr} {vs : List Value} {k : Value → Int × Int} {Q : Value → Shared → Prop} (hl : s.heap.IsTuple l vs.toArray) (hz : vs.length ≤ sizeLine) (hp : ∀ v ∈ vs, Srt.IsPair s.heap v (k v).1 (k v).2)
    (h : ∀ (h' : Heap) (d : Addr) (out : List Value), Srtd (fun v u => lexB (k v) (k u)) out → Stb (fun v u => lexB (k v) (k u)) out vs → (∀ b o, s.heap.get? b = some o → h'.get? b = some o) → s.heap.objs.size ≤ d → (∃ n, h'.get? d = some (seqObj "list" out.toArray n)) → Q (.ref d) { s with heap := h' }) :
    wpAny (model prog w) A (call (.builtin "sorted") [.ref l]) Q E s := by
  refine sorted_ordT (swo_lex k) hl hz (fun h2 h₁ a ha kk => ?_) fun out hs hb => ?_
  · refine pairs_sortableO (s := { s with heap := h₁ }) (by omega) (fun v hm => (hp v hm).keeps fun b o e _ => (kk b o e).2) fun o e => ?_
    have e' : some o = some (seqObj "list" vs.toArray 0) := e.symm.trans ha
    cases e'
    intro c
    exact absurd (Value.type.inj c) (by decide)
  · exact h _ _ out hs hb (fun b o e => sortedAll_old e) (Nat.le_succ _) (sortedAll_at s.heap vs out.toArray)
end
def bSortPT : VN := fun ds Q => match ds with
  | [.tuple xs] => match pairsOf xs with
    | some ps => ∀ qs : List (Int × Int), qs.Perm ps → qs.Pairwise (fun p q => ltPr q p = false) → Q (.own (.l (qs.map pairD)))
    | none => False
  | _ => False
section
variable {K : PySem.W.Frag} {Z : Hp} {X : Cx}
theorem sorted_pairsT {pins : List (Addr × Obj)} {s : Shared} {σ : St} {H : Hp} {q : Addr} {vs : List V} {Q : VK} (k : V → Int × Int) (I : Inv X pins σ H s) (hs : SqT X.K H q vs) (hx : ∀ x ∈ vs, ∃ t, x = V.ref t ∧ SqT X.K H t [.int (k x).1, .int (k x).2])
    (g : ∀ ys p, SrtO.Srtd (ltP k) ys → SrtO.Stb (ltP k) ys vs → H p = none → Q (.ref p) (upd H p (.lst ys))) : wpAny (model X.prog X.w) X.A (call (.builtin "sorted") [.ref q]) (EP X pins σ Q) X.xe s := by
  obtain ⟨its, rv, hl, hz⟩ := I.tuple hs
  obtain ⟨e1, e2⟩ := refs_back rv fun x m => by
    obtain ⟨t, e, _⟩ := hx x m
    exact ⟨t, e⟩
  have len := rv.length
  refine sorted_pairsOT (k := fun u => k (backV u)) hl (by rw [← len]; exact hz) ?_ ?_
  · intro v hv
    obtain ⟨t, rfl⟩ := e2 v hv
    have hm : V.ref t ∈ vs := by
      rw [e1]
      exact List.mem_map.mpr ⟨_, hv, rfl⟩
    obtain ⟨t', e, ht⟩ := hx _ hm
    cases e
    obtain ⟨us, ru, ⟨o, ho, hc, n, hd⟩, _⟩ := I.tuple ht
    obtain ⟨u1, u2, rfl, ri, rj⟩ := vals2 ru
    obtain ⟨t1, rfl⟩ := ri
    obtain ⟨t2, rfl⟩ := rj
    exact ⟨t, o, t1, t2, n, rfl, ho, hc, hd⟩
  · intro h' d out h1 h2 kp hd ⟨n, hn⟩
    have back : ∀ u ∈ out, ∃ a, u = Value.ref a := fun u hu => e2 u (h2.perm.mem_iff.mp hu)
    have hb : SrtO.Stb (ltP k) (out.map backV) vs := by
      rw [e1]
      exact SrtO.Stb.map (ltP_swo k) backV h2
    refine ⟨.ref d, upd H d (.lst (out.map backV)), I.laid (t' := s.toks) kp hd ⟨?_, out, n, vals_back back, hn⟩, rfl, g _ d (SrtO.srtd_map h1) hb (I.hok.fresh hd)⟩
    rw [hb.len]
    exact hz
theorem fb_sortPT : CallR X (.builtin "sorted") (rFN X.K bSortPT) := by
  intro pins s σ H vs us Q I rv ⟨Z, ds, Qf, hz, rr, g, q⟩
  unfold bSortPT at g
  split at g
  · split at g
    · rename_i eb
      obtain ⟨v, rfl, r1⟩ := rr.one
      obtain ⟨p, vs, rfl, h1, h2, h3⟩ := r1.tuple hz
      rw [pairsOf_eq eb] at h3
      obtain ⟨u, rfl, ru⟩ := vals1 rv
      cases ru
      have each : ∀ {vs : List V} {ps : List (Int × Int)}, RpAll X.K Z vs (ps.map pairD) → (∀ x ∈ vs, ∃ t, x = V.ref t ∧ SqT X.K H t [.int (keyZ X.K Z x).1, .int (keyZ X.K Z x).2]) ∧ vs.map (keyZ X.K Z) = ps ∧ ∀ x ∈ vs, Rp X.K Z x (pairD (keyZ X.K Z x)) := by
        intro vs
        induction vs with
        | nil =>
          intro ps ra
          cases ps with
          | nil => exact ⟨fun x hx => (nomatch hx), rfl, fun x hx => (nomatch hx)⟩
          | cons p ps => cases ra
        | cons v vs ih =>
          intro ps ra
          cases ps with
          | nil => cases ra
          | cons p ps =>
            cases ra with
            | cons a1 a2 =>
              obtain ⟨i1, i2, i3⟩ := ih a2
              have ek := rp_pair_key (fun t xs ys a b => I.tuple_inj (same_sqT hz a) (same_sqT hz b)) a1
              obtain ⟨t, et, ht⟩ := rp_pair a1
              refine ⟨fun x hx => ?_, by rw [List.map_cons, ek, i2], fun x hx => ?_⟩
              · rcases List.mem_cons.mp hx with rfl | hx
                · exact ⟨t, et, by rw [ek]; exact same_sqT hz ht⟩
                · exact i1 x hx
              · rcases List.mem_cons.mp hx with rfl | hx
                · rw [ek]; exact a1
                · exact i3 x hx
      obtain ⟨i1, i2, i3⟩ := each h3
      refine sorted_pairsT (keyZ X.K Z) I h1 i1 fun ys p' hs hb hn => ?_
      have hp := hb.perm
      have ry : RpAll X.K Z ys ((ys.map (keyZ X.K Z)).map pairD) := by
        have all : ∀ x ∈ ys, Rp X.K Z x (pairD (keyZ X.K Z x)) := fun x hx => i3 x (hp.mem_iff.mp hx)
        clear hs hb hn hp
        induction ys with
        | nil => exact .nil
        | cons y ys ih => exact .cons (all y List.mem_cons_self) (ih fun x hx => all x (List.mem_cons_of_mem _ hx))
      refine q _ _ Z _ (.lst hz hn (by rw [hp.length_eq]; exact h2) ry) (g _ (by rw [← i2]; exact hp.map _) ?_)
      have hs' : ys.Pairwise fun x y => ltP (keyZ X.K Z) y x = false := hs
      rw [List.pairwise_map]
      refine hs'.imp fun {x y} h => ?_
      have h := SrtO.lexB_no.mp h
      unfold ltPr
      simp only [Bool.or_eq_false_iff, Bool.and_eq_false_iff, decide_eq_false_iff_not, beq_eq_false_iff_ne, ne_eq]
      omega
    · exact g.elim
  · exact g.elim
end
section
variable {K : PySem.W.Frag} {Z : Hp}
theorem rp_tupI {v : V} {ns : List Int} (r : Rp K Z v (tupI ns)) : ∃ t, v = .ref t ∧ SqT K Z t (ns.map V.int) := by
  unfold tupI at r
  cases r with
  | tup h z a =>
    rw [a.ints] at h
    exact ⟨_, rfl, tupSq h⟩
open Classical in
noncomputable def keyT (K : PySem.W.Frag) (Z : Hp) (v : V) : List Int := if h : ∃ ns, Rp K Z v (tupI ns) then h.choose else []
theorem map_int_inj : ∀ {ns ms : List Int}, ns.map V.int = ms.map V.int → ns = ms
  | [], [], _ => rfl
  | [], _ :: _, h => by cases h
  | _ :: _, [], h => by cases h
  | n :: ns, m :: ms, h => by
    rw [List.map_cons, List.map_cons] at h
    injection h with h1 h2
    injection h1 with h1
    rw [h1, map_int_inj h2]
theorem rp_tupI_key {v : V} {ns : List Int} (one : ∀ (t : Addr) (xs ys : List V), SqT K Z t xs → SqT K Z t ys → xs = ys) (r : Rp K Z v (tupI ns)) : keyT K Z v = ns := by
  classical
  have h : ∃ p, Rp K Z v (tupI p) := ⟨ns, r⟩
  unfold keyT
  rw [dif_pos h]
  have hc := h.choose_spec
  generalize h.choose = p' at hc
  obtain ⟨t, rfl, h1⟩ := rp_tupI r
  obtain ⟨t', e, h2⟩ := rp_tupI hc
  cases e
  exact map_int_inj (one t _ _ h2 h1)
end
theorem fb_sortT : CallR X (.builtin "sorted") (rFN X.K bSortT) := by
  intro pins s σ H vs us Q I rv ⟨Z, ds, Qf, hz, rr, g, q⟩
  unfold bSortT at g
  split at g
  · split at g
    · rename_i eb
      obtain ⟨v, rfl, r1⟩ := rr.one
      obtain ⟨p, vs, rfl, h1, h2, h3⟩ := r1.list hz
      rw [tupsOf_eq eb] at h3
      obtain ⟨u, rfl, ru⟩ := vals1 rv
      cases ru
      have each : ∀ {vs : List V} {ps : List (List Int)}, RpAll X.K Z vs (ps.map tupI) → (∀ x ∈ vs, ∃ t, x = V.ref t ∧ SqT X.K H t ((keyT X.K Z x).map V.int)) ∧ vs.map (keyT X.K Z) = ps ∧ ∀ x ∈ vs, Rp X.K Z x (tupI (keyT X.K Z x)) := by
        intro vs
        induction vs with
        | nil =>
          intro ps ra
          cases ps with
          | nil => exact ⟨fun x hx => (nomatch hx), rfl, fun x hx => (nomatch hx)⟩
          | cons p ps => cases ra
        | cons v vs ih =>
          intro ps ra
          cases ps with
          | nil => cases ra
          | cons p ps =>
            cases ra with
            | cons a1 a2 =>
              obtain ⟨i1, i2, i3⟩ := ih a2
              have ek := rp_tupI_key (fun t xs ys a b => I.tuple_inj (same_sqT hz a) (same_sqT hz b)) a1
              obtain ⟨t, et, ht⟩ := rp_tupI a1
              refine ⟨fun x hx => ?_, by rw [List.map_cons, ek, i2], fun x hx => ?_⟩
              · rcases List.mem_cons.mp hx with rfl | hx
                · exact ⟨t, et, by rw [ek]; exact same_sqT hz ht⟩
                · exact i1 x hx
              · rcases List.mem_cons.mp hx with rfl | hx
                · rw [ek]; exact a1
                · exact i3 x hx
      obtain ⟨i1, i2, i3⟩ := each h3
      have hlen := congrArg List.length i2
      rw [List.length_map] at hlen
      refine sorted_tups (keyT X.K Z) I (.inl h1) i1 (fun h2 x hx => g.1 (by rw [← hlen]; exact h2) _ (by rw [← i2]; exact List.mem_map.mpr ⟨x, hx, rfl⟩)) fun ys p' hs hb hn => ?_
      have hp := hb.perm
      have ry : RpAll X.K Z ys ((ys.map (keyT X.K Z)).map tupI) := by
        have all : ∀ x ∈ ys, Rp X.K Z x (tupI (keyT X.K Z x)) := fun x hx => i3 x (hp.mem_iff.mp hx)
        clear hs hb hn hp
        induction ys with
        | nil => exact .nil
        | cons y ys ih => exact .cons (all y List.mem_cons_self) (ih fun x hx => all x (List.mem_cons_of_mem _ hx))
      refine q _ _ Z _ (.lst hz hn (by rw [hp.length_eq]; exact h2) ry) (g.2 _ (by rw [← i2]; exact hp.map _) ?_)
      rw [List.pairwise_map]
      exact hs
    · exact g.elim
  · exact g.elim
/-- sorted, by what stands in the list -/
def bSorted : VN := fun ds Q => match ds with
  | [.list xs] => match intsOf xs with
    | some _ => bSortI [.list xs] Q
    | none => match pairsOf xs with
      | some _ => bSortP [.list xs] Q
      | none => bSortT [.list xs] Q
  | [.tuple xs] => match intsOf xs with
    | some ns => ∀ ms : List Int, ms.Perm ns → ms.Pairwise (· ≤ ·) → Q (.own (.l (ms.map .int)))
    | none => bSortPT [.tuple xs] Q
  | _ => False
theorem fb_sorted : CallR X (.builtin "sorted") (rFN X.K bSorted) := by
  intro pins s σ H vs us Q I rv ⟨Z, ds, Qf, hz, rr, g, q⟩
  unfold bSorted at g
  split at g
  · split at g
    · exact fb_sortI pins s σ H vs us Q I rv ⟨Z, _, Qf, hz, rr, g, q⟩
    · split at g
      · exact fb_sortP pins s σ H vs us Q I rv ⟨Z, _, Qf, hz, rr, g, q⟩
      · exact fb_sortT pins s σ H vs us Q I rv ⟨Z, _, Qf, hz, rr, g, q⟩
  · split at g
    · rename_i eb
      obtain ⟨v, rfl, r1⟩ := rr.one
      obtain ⟨p, vs, rfl, h1, h2, h3⟩ := r1.tuple hz
      rw [intsOf_eq eb] at h3
      rw [h3.ints] at h1 h2
      refine cr_sortedT pins s σ H _ us Q I rv ⟨p, _, rfl, h1, fun ns' p' hp hs hn => ?_⟩
      exact q _ _ Z _ (.lst hz hn (by rw [List.length_map] at h2 ⊢; rw [hp.length_eq]; exact h2) (RpAll.of_ints ns')) (g ns' hp hs)
    · exact fb_sortPT pins s σ H vs us Q I rv ⟨Z, _, Qf, hz, rr, g, q⟩
  · exact g.elim
end
end Hs
namespace Hs
open PySem PySem.Spec PyProof.Rows L2
end Hs
namespace Hs
open PySem PySem.Spec PyProof.Rows L2
section
variable {P : Program} {w : World} {A : Around} {E : Value → Shared → Prop} {s : Shared}
/-- the empty set's object -/
abbrev nilSet (w : World) : Obj := { cls := .type "set", dict := none, data := .set #[] 0 (.fresh 0 0 (!w.params.followText "set-order")) }
set_option maxRecDepth 100000 in
set_option maxHeartbeats 3200000 in
theorem call_set_listI {l : Addr} {items : Array Value} (ns : List Int) {Q : Value → Shared → Prop} (hh : A.handled = none) (hl : s.heap.IsList l items) (hit : IntsAre items.toList ns) (hb : ns.length + 1 < scanBound)
    (h : ∀ (h' : Heap) (tk c : Nat), SetR w h' s.heap.objs.size (fun j => decide (j ∈ ns)) c → c ≤ ns.length → (∀ b o, s.heap.get? b = some o → h'.get? b = some o) → Q (.ref s.heap.objs.size) { s with heap := h', toks := tk }) :
    wpAny (model P w) A (call (.type "set") [.ref l]) Q E s := by
  have hn : items.size = ns.length := by simpa using IntsAre.length hit
  obtain ⟨c, tl, hmro⟩ := F.called_set.mro
  have hmade := F.called_set.made
  have hsub := F.called_set.sub
  refine wpAny_call (codeAny_of_tree ?_)
  show wpAny _ _ (callAny (.type "set") _) _ _ _
  refine wpAny_pure ⟨Code.quiet_builtin _ (by decide +kernel), codeAny_builtin F.entry_type_call ?_⟩
  rw [Around.under_plain (weight_type_call_type "set" [.ref l] []) rfl]
  have h1 := F.called_set.notType
  have h2 := F.called_set.canCreate
  have hct := F.typeCall_set_1 (.ref l)
  repeat (any_goals (first | assumption | wp_step))
  refine codeAny_mono (code_set_led1 (.ref l) (E := E) (Q₁ := fun obj s₁ => obj = .ref s.heap.objs.size ∧ s₁ = { s with heap := s.heap.push (nilSet w) }) ⟨rfl, rfl⟩) fun r s₁ hr => ?_
  cases r with
  | error e => exact hr
  | ok fl =>
    cases fl with
    | ret obj =>
      obtain ⟨rfl, rfl⟩ := hr
      have hS : (s.heap.push (nilSet w)).get? s.heap.objs.size = some (nilSet w) := Heap.get?_push_size _ rfl
      have hT : Shared.TypeIs { s with heap := s.heap.push (nilSet w) } (.ref s.heap.objs.size) "set" := ⟨_, hS, rfl⟩
      have hli := F.called_set.init.lookup
      have hbi := F.called_set.init.bind (.ref s.heap.objs.size)
      repeat (any_goals (first | assumption | wp_step))
      refine codeAny_mono (codeAny_call_builtin (R := wants (fun r s₂ => r = .none ∧ ∃ h' tk c, s₂ = { s with heap := h', toks := tk } ∧ SetR w h' s.heap.objs.size (fun j => decide (j ∈ ns)) c ∧ c ≤ ns.length ∧
          (∀ b o, s.heap.get? b = some o → h'.get? b = some o)) E) F.called_set.init.plain F.entry_set_init (check_set_init_1 hT ?_)) fun r₂ s₂ hr₂ => ?_
      · obtain ⟨ol, hol, hcl, nl, hdl⟩ := hl
        obtain ⟨ocls, odict, odata, oslots⟩ := ol
        simp only at hcl hdl
        subst hcl; subst hdl
        have hol' : (s.heap.push (nilSet w)).get? l = some { cls := .type "list", dict := odict, data := .seq items nl, slots := oslots } := Heap.get?_push_of_some _ hol
        have hsls := F.sub_list_set
        have hslf := F.sub_list_frozenset
        have hne : (Value.type "list" == Value.type "dict") = false := by decide
        have hl1 : (s.heap.push (nilSet w)).IsList l items := ⟨_, hol', rfl, nl, rfl⟩
        unfold Builtin.«set.__init__» noKeywords Builtin.Frozenset.updateFrom
        generalize hPI : pyIter = PI
        wp_walk
        subst hPI
        refine wpAny_pyIter_list hl1 ?_
        refine wpAny_bind (wpAny_runValue ?_)
        have hlS : l < s.heap.objs.size := Heap.lt_size hol
        have hh3 : A.in1.in1.in1.handled = none := by simp [hh]
        have hz1 : (s.heap.push (nilSet w)).objs.size = s.heap.objs.size + 1 := Heap.size_push ..
        have hneI : l ≠ (s.heap.push (nilSet w)).objs.size := by rw [hz1]; exact Nat.ne_of_lt (Nat.lt_succ_of_lt hlS)
        have hSf : s.heap.objs.size ∉ [(s.heap.push (nilSet w)).objs.size, l] := by
          rw [hz1]
          simp only [List.mem_cons, List.not_mem_nil, or_false, not_or]
          exact ⟨Nat.ne_of_lt (Nat.lt_succ_self _), Nat.ne_of_gt hlS⟩
        have hval : ∀ (i : Nat) (v : Value), items[i]? = some v → ∃ k t, ns[i]? = some k ∧ v = .int k t := fun i v hv => by
          have hi : i < ns.length := by rw [← hn]; exact (Array.getElem?_eq_some_iff.mp hv).1
          obtain ⟨t, e⟩ := PyProof.Rows.IntsAre.int_at hit i v (by rw [Array.getElem?_toList]; exact hv)
          refine ⟨ns[i], t, List.getElem?_eq_getElem hi, ?_⟩
          rw [e, List.getD_eq_getElem?_getD, List.getElem?_eq_getElem hi] <;> rfl
        refine set_update_ints ((Walks.list hh3 _ l hneI items).toS) s.heap.objs.size hSf ns hn hb hval (items.size - 0) 0 _ (by omega) (Nat.zero_le _) ⟨⟨_, Heap.get?_push_size _ rfl, rfl, rfl⟩, (hl1.push _)⟩
          ⟨0, Nat.le_refl 0, setR_new_at (Heap.get?_push_of_some _ hS)⟩ ?_
        intro s' c' hm hc' hS'
        obtain ⟨h', g2, d', tk', os'⟩ := s'
        have eg : g2 = s.gens := hm.gens
        have ed : d' = s.drawn := hm.drawn
        have eo : os' = s.os := hm.os
        subst eg; subst ed; subst eo
        show wpAny _ _ _ _ _ _
        refine wpAny_pure ?_
        show wpAny _ _ (ret Value.none) _ _ _
        rw [hn] at hc'
        refine wpAny_pure ⟨rfl, h', tk', c', rfl, hS', hc', fun b o e => ?_⟩
        have hb0 : b < s.heap.objs.size := Heap.lt_size e
        exact hm.heap b o (by
          rw [hz1]
          simp only [List.mem_cons, List.not_mem_nil, or_false, not_or]
          exact ⟨Nat.ne_of_lt hb0, Nat.ne_of_lt (Nat.lt_succ_of_lt hb0)⟩) (Heap.get?_push_of_some _ (Heap.get?_push_of_some _ e))
      · cases r₂ with
        | error e => exact hr₂
        | ok fl₂ =>
          cases fl₂ with
          | ret r =>
            obtain ⟨rfl, h', tk, c', rfl, hS', hc', hk'⟩ := hr₂
            repeat (any_goals (first | assumption | wp_step))
            exact h _ _ _ hS' hc' hk'
          | _ => exact hr₂.elim
    | _ => exact hr.elim
end
/-- set(a list or a tuple of ints) -/
def rSetOfI (K : PySem.W.Frag) (w : World) : List V → Hp → VK → Prop := fun xs H Q => ∃ (l : Addr) (ns : List Int), xs = [V.ref l] ∧ (Rd H l (.lst (ns.map V.int)) ∨ SqT K H l (ns.map V.int)) ∧ ns.length ≤ 1000 ∧
  ∀ a c, H a = none → c ≤ ns.length → Q (.ref a) (upd H a (SetO w a (fun j => decide (j ∈ ns)) c))
section
variable {X : Cx} {L : Lv}
theorem cr_setOfI (hc : X.calm = true) : CallR X (.type "set") (rSetOfI X.K X.w) := by
  intro pins s σ H xs us Q I r h
  obtain ⟨l, ns, rfl, hl, hf, q⟩ := h
  rw [Vals.ref1 r]
  have hn : H s.heap.objs.size = none := I.hok.fresh (Nat.le_refl _)
  have fin : ∀ (h' : Heap) (tk c : Nat), SetR X.w h' s.heap.objs.size (fun j => decide (j ∈ ns)) c → c ≤ ns.length → (∀ b o, s.heap.get? b = some o → h'.get? b = some o) → ∃ v H', Inv X pins σ H' { s with heap := h', toks := tk } ∧ RelV v (.ref s.heap.objs.size) ∧ Q v H' :=
    fun h' tk c R hcl k => ⟨.ref s.heap.objs.size, upd H s.heap.objs.size (SetO X.w s.heap.objs.size _ c), I.laid (t' := tk) k (Nat.le_refl _) (setO_new R), rfl, q _ c hn hcl⟩
  rcases hl with hl | hl
  · obtain ⟨its, rv, pl, hz⟩ := I.list (Or.inl hl)
    exact call_set_listI (P := X.prog) (w := X.w) ns (I.ok.hd hc) pl.isList (ints_of_vals rv) (by unfold scanBound; omega) fin
  · obtain ⟨its, rv, pt, hz⟩ := I.tuple hl
    exact call_set_tupI (P := X.prog) (w := X.w) ns (I.ok.hd hc) pt (ints_of_vals rv) (by unfold scanBound; omega) fin
variable {e : Expr} {fr : FA} {p p2 pos pos2 : Pos} {x y : Str}
end
end Hs
namespace Hs
open PySem PySem.Spec PyProof.Rows L2
def rowOf (r : R) (k : List D → Prop) : Prop :=
  match r with
  | .own (.l ds) => k ds
  | _ => False
theorem rowOf_ok {r : R} {k : List D → Prop} (h : rowOf r k) : ∃ ds, r = .own (.l ds) ∧ k ds := by
  cases r with
  | own w =>
    cases w with
    | l ds => exact ⟨ds, rfl, h⟩
    | _ => exact h.elim
  | _ => exact h.elim
def fCompL (X : XF) (g : FG) (wp : List Nat) (t : FT) (e : FE) (Q : R → S → Prop) : List D → List (List D) → S → Prop
  | [], acc, s => Q (.own (.ll acc)) s
  | x :: xs, acc, s => g x s fun s1 => t X s1 fun b s2 => if b = true then e X s2 fun r s3 => rowOf r fun ds => fCompL X g wp t e Q xs (acc ++ [ds]) (wipeS s3 wp) else fCompL X g wp t e Q xs acc (wipeS s2 wp)
def fLcL (it : FI) (g : FG) (wp : List Nat) (t : FT) (e : FE) : FE := fun X s Q => it X s fun xs s1 => xs.length ≤ sizeLine ∧ fCompL (fun _ _ => False) g wp t e Q xs [] (wipeS s1 wp)
/-- rows[j][k] = e, j and k in slots -/
def fSetLL (i ia ib : Nat) (a : FE) : FS := fun E s => a E.xx s fun r s1 => frz r s1 fun d s2 => ∃ xss k1 k2, s2.getD i .no = .ll xss ∧ s2.getD ia .no = .d (.int k1) ∧ s2.getD ib .no = .d (.int k2) ∧ 0 ≤ k1 ∧ k1.toNat < xss.length ∧ 0 ≤ k2 ∧ k2.toNat < (xss.getD k1.toNat []).length ∧
  E.nx (s2.set i (.ll (xss.set k1.toNat ((xss.getD k1.toNat []).set k2.toNat d))))
section
variable {K : PySem.W.Frag} {Z Y H : Hp} {σ : St} {s : S}
theorem Rel.newLL0 (r : Rel K Z Y H σ s) {p : Addr} (h : H p = none) : Rel K Z Y (upd H p (.lst [])) (σ ++ [some (.ref p)]) (s ++ [.ll []]) :=
  r.push (F := [p]) (same_upd h) (Same.refl _) (r.zh.trans (same_upd h)) (fun _ _ => rfl) ⟨p, [], rfl, rfl, upd_same, Nat.zero_le _, .nil⟩ (by simp) fun a ha => by
    obtain rfl : a = p := by simpa using ha
    exact ⟨h, r.fresh h⟩
theorem LL.snoc {q : Addr} {vs : List V} {xs : List D} (hq : H q = some (.lst vs)) (hl : vs.length ≤ sizeLine) (ha : RpAll K Z vs xs) : ∀ {qs : List Addr} {xss : List (List D)}, LL K Z H qs xss → LL K Z H (qs ++ [q]) (xss ++ [xs])
  | _, _, .nil => .cons hq hl ha .nil
  | _, _, .cons h z a r => .cons h z a (LL.snoc hq hl ha r)
theorem LL.len : ∀ {qs : List Addr} {xss : List (List D)}, LL K Z H qs xss → qs.length = xss.length
  | _, _, .nil => rfl
  | _, _, .cons _ _ _ r => congrArg (· + 1) r.len
theorem LL.get : ∀ {qs : List Addr} {xss : List (List D)} {j : Nat}, LL K Z H qs xss → j < xss.length → ∃ q vs, qs[j]? = some q ∧ H q = some (.lst vs) ∧ vs.length ≤ sizeLine ∧ RpAll K Z vs (xss.getD j [])
  | _, _, _, .nil, h => by simp at h
  | _, _, 0, .cons h z a r, _ => ⟨_, _, rfl, h, z, a⟩
  | _, _, j + 1, .cons h z a r, hj => r.get (j := j) (by simpa using hj)
theorem LL.away {q : Addr} {o : HO} : ∀ {qs : List Addr} {xss : List (List D)}, LL K Z H qs xss → q ∉ qs → LL K Z (upd H q o) qs xss
  | _, _, .nil, _ => .nil
  | _, _, .cons h z a r, hn => .cons (by rw [upd_ne (fun e => hn (by rw [e]; exact List.mem_cons_self))]; exact h) z a (r.away fun hm => hn (List.mem_cons_of_mem _ hm))
theorem LL.put {q : Addr} {vs : List V} {xs : List D} (hl : vs.length ≤ sizeLine) (ha : RpAll K Z vs xs) : ∀ {qs : List Addr} {xss : List (List D)} {j : Nat}, LL K Z H qs xss → qs.Nodup → qs[j]? = some q → LL K Z (upd H q (.lst vs)) qs (xss.set j xs)
  | _, _, _, .nil, _, e => by simp at e
  | _, _, 0, .cons h z a r, nd, e => by
    cases e
    exact .cons upd_same hl ha (r.away (List.nodup_cons.mp nd).1)
  | _, _, j + 1, .cons h z a r, nd, e => by
    have e : _ = some q := e
    refine .cons ?_ z a (r.put (j := j) hl ha (List.nodup_cons.mp nd).2 e)
    rw [upd_ne]
    · exact h
    · rintro rfl
      exact (List.nodup_cons.mp nd).1 (List.mem_of_getElem? e)
theorem Rel.pushRow {v : V} {pD : Addr} {ds : List D} {xss : List (List D)} {avs : List V} (r : Rel K Z Y H (σ ++ [some v] ++ [some (.ref pD)]) (s ++ [.l ds] ++ [.ll xss])) (hl : σ.length = s.length) (hD : H pD = some (.lst avs)) (hz : avs.length + 1 ≤ sizeLine) :
    ∃ q, v = .ref q ∧ Rel K Z Y (upd H pD (.lst (avs ++ [.ref q]))) (σ ++ [some (.ref pD)]) (s ++ [.ll (xss ++ [ds])]) := by
  obtain ⟨F, o⟩ := r.own
  have a1 := o.at_ σ.length
  rw [List.append_assoc, List.append_assoc, getD_app_ge (l := σ) (Nat.le_refl _), getD_app_ge (l := s) (by omega), Nat.sub_self, hl, Nat.sub_self] at a1
  obtain ⟨q, vs, e1, e2, e3, e4, e5⟩ := a1
  have ev : v = .ref q := by
    have e1 : (some v : Option V) = some (.ref q) := e1
    cases e1; rfl
  subst ev
  have a2 := o.at_ (σ.length + 1)
  rw [getD_app_ge (by rw [List.length_append]; exact Nat.le_refl _), getD_app_ge (by rw [List.length_append, hl]; exact Nat.le_refl _), List.length_append, List.length_append, hl] at a2
  have z0 : s.length + 1 - (s.length + [SV.l ds].length) = 0 := by simp
  have z1 : s.length + 1 - (s.length + [some (V.ref q)].length) = 0 := by simp
  rw [z0, z1] at a2
  obtain ⟨p, qs, f1, f2, f3, f4, f5⟩ := a2
  have ep : p = pD := by
    have f1 : (some (V.ref pD) : Option V) = some (.ref p) := f1
    cases f1; rfl
  subst ep
  have ea : avs = qs.map V.ref := by rw [f3] at hD; cases hD; rfl
  subst ea
  have nd := o.nd (s.length + 1)
  rw [f2] at nd
  have dj : ∀ a, a ∈ F s.length → a ∈ F (s.length + 1) → False := fun a h1 h2 => by have := o.dj _ _ a h1 h2; omega
  have qn : q ∉ p :: qs := fun h => dj q (by rw [e2]; exact List.mem_cons_self) (by rw [f2]; exact h)
  have pf := o.fr (s.length + 1) p (by rw [f2]; exact List.mem_cons_self)
  have pp : ∀ i, i ≠ s.length + 1 → p ∉ F i := fun i hi h => hi (o.dj i _ p h (by rw [f2]; exact List.mem_cons_self))
  refine ⟨q, rfl, fun b x e => ?_, fun b x e => ?_, r.zy, r.yt, by simp [hl], fun i => if i < s.length then F i else if i = s.length then p :: (qs ++ [q]) else [], fun i => ?_, fun i => ?_, fun i j a ha ha' => ?_, fun i a ha => ?_⟩
  · rw [upd_ne (fun z => by rw [z, pf.1] at e; cases e)]; exact r.zh b x e
  · rw [upd_ne (fun z => by rw [z, pf.2] at e; cases e)]; exact r.yh b x e
  · by_cases hi : i < s.length
    · rw [if_pos hi, getD_app_lt (by omega), getD_app_lt hi]
      have q0 := o.at_ i
      rw [List.append_assoc, List.append_assoc, getD_app_lt (by omega), getD_app_lt hi] at q0
      refine q0.mono (Same.refl _) fun a ha ob e => ?_
      rw [upd_ne (fun z => pp i (by omega) (by rw [← z]; exact ha))]
      exact e
    · rw [if_neg hi]
      by_cases hi2 : i = s.length
      · subst hi2
        rw [if_pos rfl, getD_app_ge (by omega), getD_app_ge (Nat.le_refl _), hl, Nat.sub_self]
        refine ⟨p, qs ++ [q], rfl, rfl, ?_, ?_, ?_⟩
        · rw [List.map_append]; exact upd_same
        · rw [List.length_append]
          rw [List.length_map] at hz
          exact hz
        · have l1 := f5.away (q := p) (o := .lst (qs.map V.ref ++ [.ref q])) (List.nodup_cons.mp nd).1
          refine l1.snoc ?_ e4 e5
          rw [upd_ne (fun z => qn (by rw [z]; exact List.mem_cons_self))]
          exact e3
      · rw [if_neg hi2, getD_out (l := s ++ [SV.ll (xss ++ [ds])]) (by simp; omega)]
        exact rfl
  · by_cases hi : i < s.length
    · rw [if_pos hi]; exact o.nd i
    · rw [if_neg hi]
      by_cases hi2 : i = s.length
      · rw [if_pos hi2, ← List.cons_append]
        exact List.nodup_append.mpr ⟨nd, by simp, fun a ha b hb => by
          obtain rfl := List.mem_singleton.mp hb
          exact fun e => qn (by rw [← e]; exact ha)⟩
      · rw [if_neg hi2]; exact .nil
  · have both : ∀ i, a ∈ (if i < s.length then F i else if i = s.length then p :: (qs ++ [q]) else []) → (i < s.length ∧ a ∈ F i) ∨ (i = s.length ∧ (a ∈ F s.length ∨ a ∈ F (s.length + 1))) := fun i h => by
      by_cases hi : i < s.length
      · rw [if_pos hi] at h; exact .inl ⟨hi, h⟩
      · rw [if_neg hi] at h
        by_cases hi2 : i = s.length
        · rw [if_pos hi2, ← List.cons_append] at h
          refine .inr ⟨hi2, ?_⟩
          rcases List.mem_append.mp h with h | h
          · exact .inr (by rw [f2]; exact h)
          · exact .inl (by rw [e2]; exact h)
        · rw [if_neg hi2] at h; cases h
    rcases both i ha with ⟨h1, h2⟩ | ⟨h1, h2 | h2⟩ <;> rcases both j ha' with ⟨h3, h4⟩ | ⟨h3, h4 | h4⟩
    · exact o.dj _ _ a h2 h4
    · have := o.dj _ _ a h2 h4; omega
    · have := o.dj _ _ a h2 h4; omega
    · have := o.dj _ _ a h2 h4; omega
    · omega
    · omega
    · have := o.dj _ _ a h2 h4; omega
    · omega
    · omega
  · by_cases hi : i < s.length
    · rw [if_pos hi] at ha; exact o.fr i a ha
    · rw [if_neg hi] at ha
      by_cases hi2 : i = s.length
      · rw [if_pos hi2, ← List.cons_append] at ha
        rcases List.mem_append.mp ha with ha | ha
        · exact o.fr _ a (by rw [f2]; exact ha)
        · exact o.fr s.length a (by rw [e2]; exact ha)
      · rw [if_neg hi2] at ha; cases ha
/-- an item of a row written -/
theorem Rel.writeLL (r : Rel K Z Y H σ s) {i : Nat} {xss : List (List D)} {k1 : Nat} (hs : s.getD i .no = .ll xss) (hk : k1 < xss.length) :
    ∃ (p : Addr) (qs : List Addr) (q : Addr) (vs : List V), σ.getD i none = some (.ref p) ∧ H p = some (.lst (qs.map V.ref)) ∧ qs.length = xss.length ∧ qs[k1]? = some q ∧ H q = some (.lst vs) ∧ vs.length ≤ sizeLine ∧ RpAll K Z vs (xss.getD k1 []) ∧
      ∀ vs' xs', vs'.length ≤ sizeLine → RpAll K Z vs' xs' → Rel K Z Y (upd H q (.lst vs')) σ (s.set i (.ll (xss.set k1 xs'))) := by
  obtain ⟨F, o⟩ := r.own
  have a1 := o.at_ i
  rw [hs] at a1
  obtain ⟨p, qs, f1, f2, f3, f4, f5⟩ := a1
  obtain ⟨q, vs, g1, g2, g3, g4⟩ := f5.get hk
  have hi : i < s.length := by
    by_cases h : i < s.length
    · exact h
    · rw [getD_out (by omega)] at hs; cases hs
  have nd := o.nd i
  rw [f2] at nd
  have qm : q ∈ F i := by rw [f2]; exact List.mem_cons_of_mem _ (List.mem_of_getElem? g1)
  have pf := o.fr i q qm
  refine ⟨p, qs, q, vs, f1, f3, f5.len, g1, g2, g3, g4, fun vs' xs' hl ha => ⟨fun b x e => ?_, fun b x e => ?_, r.zy, r.yt, by rw [List.length_set]; exact r.len, F, fun j => ?_, o.nd, o.dj, o.fr⟩⟩
  · rw [upd_ne (fun z => by rw [z, pf.1] at e; cases e)]; exact r.zh b x e
  · rw [upd_ne (fun z => by rw [z, pf.2] at e; cases e)]; exact r.yh b x e
  · by_cases hj : i = j
    · subst hj
      rw [getD_set_self hi, f1, f2]
      refine ⟨p, qs, rfl, rfl, ?_, f4, f5.put hl ha (List.nodup_cons.mp nd).2 g1⟩
      rw [upd_ne (fun z => (List.nodup_cons.mp nd).1 (by rw [z]; exact List.mem_of_getElem? g1))]
      exact f3
    · rw [getD_set_ne hj]
      refine (o.at_ j).mono (Same.refl _) fun b hb ob e => ?_
      rw [upd_ne]
      · exact e
      · rintro rfl
        exact hj (o.dj i j b qm hb)
end
section
variable {X : Cx} {L : Lv} {e a b c : Expr} {es : List Expr} {fa fb fc : FE} {ft fu : FT} {fr : FA} {pos p : Pos} {ws : List Nat}
theorem fLcL_ok {fi : FI} {fg : FG} {vs : List Nat} {σ : St} {H : Hp} {Q : VK} (hv : ∀ j ∈ vs, j ∉ L.io) (h : liftE X L (fLcL fi fg vs ft fa) σ H Q) :
    tLc (liftI X L fi) (liftG X L.in0 vs fg) (liftT X L.in0 ft) (liftE X L.in0 fa) vs σ H Q := by
  obtain ⟨Z, Y, s, Xf, Qf, r, k, xo, h, q⟩ := h
  refine ⟨Z, Y, s, Xf, _, r, k, xo, h, fun J H1 Z1 s1 xs hz rl wk ⟨hsz, hcomp⟩ => fun D hD => ?_⟩
  have kw : L.keeps (wipe σ vs) := ⟨by rw [wipe_length]; exact k.1, fun j hj => by
    rw [wipe_get, if_neg (fun z => hv j z hj)]
    exact k.2 j hj⟩
  refine ⟨fun i m H' => ∃ Z' s' acc avs, Same Z1 Z' ∧ Rel X.K Z' Y H' (wipe σ vs ++ [some (.ref D)]) (s' ++ [.ll acc]) ∧ s'.length = σ.length ∧ (∀ j ∈ vs, s'.getD j .no = .no) ∧ H' D = some (.lst avs) ∧ avs.length ≤ i ∧ m = xs.length - i ∧ i ≤ xs.length ∧ fCompL (fun _ _ => False) fg vs ft fa Qf (xs.drop i) acc s',
    ⟨xs.length, Z1, wipeS s1 vs, [], [], Same.refl _, Rel.wipe2 (rl.newLL0 hD) rl.len vs, by rw [wipeS_len]; exact rl.len.symm, fun j hj => by rw [wipeS_get, if_pos hj], upd_same, Nat.le_refl _, rfl, Nat.zero_le _, hcomp⟩, ?_⟩
  rintro i m H' ⟨Z', s', acc, avs, hz', r', hl', hno, hDl, hal, rfl, hle, hl⟩
  have hl'' : (wipe σ vs).length = s'.length := by rw [wipe_length, hl']
  by_cases hlt : i < xs.length
  · refine .inr ⟨wk.go i H' (hz'.trans r'.zh) hlt, fun H2 => ∃ Z2 s2 acc2 avs2, Same Z' Z2 ∧ Rel X.K Z2 Y H2 (wipe σ vs ++ [some (.ref D)]) (s2 ++ [.ll acc2]) ∧ s2.length = σ.length ∧ (∀ j ∈ vs, s2.getD j .no = .no) ∧ H2 D = some (.lst avs2) ∧ avs2.length ≤ i + 1 ∧ fCompL (fun _ _ => False) fg vs ft fa Qf (xs.drop (i + 1)) acc2 s2,
      fun H2 ⟨Z2, s2, acc2, avs2, hz2, r2, l2, n2, d2, al2, h2⟩ => ⟨xs.length - (i + 1), by omega, Z2, s2, acc2, avs2, hz'.trans hz2, r2, l2, n2, d2, al2, rfl, hlt, h2⟩, fun x H2 hy => ?_⟩
    obtain ⟨d, Z2, hd, n⟩ := wk.yld i H' x H2 Z' hz' r'.zh hlt hy
    have ed : xs.drop i = d :: xs.drop (i + 1) := by
      obtain ⟨h1, h2⟩ := List.getElem?_eq_some_iff.mp hd
      rw [List.drop_eq_getElem_cons hlt, h2]
    rw [ed] at hl
    have r2 : Rel X.K Z2 Y H2 (wipe σ vs ++ [some (.ref D)]) (s' ++ [.ll acc]) := r'.grow n.hh n.hz n.zh n.old
    have hD2 : H2 D = some (.lst avs) := n.hh _ _ hDl
    obtain ⟨Y', hy', rl2, back, held⟩ := r2.frame hl''
    have yD : Y' D = some (.lst avs) := by
      obtain ⟨F, p', v', e1, e2, e3, _⟩ := held 0
      cases e1
      exact e3.trans ((rl2.yh _ _ e3).symm.trans hD2)
    have bk : ∀ Z1 H1 σ1 s1, Same Z2 Z1 → Rel X.K Z1 Y' H1 σ1 s1 → Rel X.K Z1 Y H1 σ1 s1 := fun Z1 H1 σ1 s1 hz q => (back Z1 H1 σ1 s1 hz q).take q.len
    refine ⟨Z2, Y', s', d, _, rl2, kw, n.val, hl, fun σ3 s3 k3 o3 r3 h3 => ⟨(wipe_only o3).trans (wipe_only wipe_wipe), ?_⟩⟩
    refine ⟨Z2, Y', s3, fun _ _ => False, _, r3, k3, XOk.none, h3, fun b H3 Z3 s4 hz3 r4 h4 => ?_⟩
    have e34 : wipe σ3 vs = wipe σ vs := (wipe_only o3).trans (wipe_only wipe_wipe)
    cases b with
    | false =>
      have h4 : fCompL (fun _ _ => False) fg vs ft fa Qf (xs.drop (i + 1)) acc (Hs.wipeS s4 vs) := h4
      have b4 := back Z3 H3 _ _ hz3 r4
      have w4 := b4.wipe2 r4.len vs
      rw [e34] at w4
      exact ⟨Z3, Hs.wipeS s4 vs, acc, avs, n.hz.trans hz3, w4, by rw [wipeS_len, ← r4.len, o3.1, wipe_length], fun j hj => by rw [wipeS_get, if_pos hj], r4.yh _ _ yD, Nat.le_succ_of_le hal, h4⟩
    | true =>
      have h4 : fa (fun _ _ => False) s4 fun r s3 => rowOf r fun ds => fCompL (fun _ _ => False) fg vs ft fa Qf (xs.drop (i + 1)) (acc ++ [ds]) (Hs.wipeS s3 vs) := h4
      refine ⟨Z3, Y', s4, fun _ _ => False, _, r4, k3, XOk.none, h4, fun y H5 Z5 r5 s5 hz5 rx5 h5 => ?_⟩
      have hD5 : H5 D = some (.lst avs) := rx5.rel0.yh _ _ yD
      obtain ⟨ds, rfl, h6⟩ := rowOf_ok h5
      have b6 := back Z5 H5 _ _ (hz3.trans hz5) rx5.rel
      obtain ⟨q, w6⟩ := Rel.pushRow b6 rx5.l1 hD5 (Nat.succ_le_of_lt (Nat.lt_of_le_of_lt hal (Nat.lt_of_lt_of_le hlt hsz)))
      obtain ⟨rfl, w6⟩ := w6
      refine ⟨avs, hD5, Nat.lt_of_le_of_lt hal (Nat.lt_of_lt_of_le hlt hsz), Z5, Hs.wipeS s5 vs, acc ++ [ds], avs ++ [.ref q], (n.hz.trans hz3).trans hz5, ?_, by rw [wipeS_len, ← rx5.l1, o3.1, wipe_length], fun j hj => by rw [wipeS_get, if_pos hj], upd_same, by rw [List.length_append]; exact Nat.succ_le_succ hal, h6⟩
      have w7 := Rel.wipe2 w6 rx5.l1 vs
      rw [e34] at w7
      exact w7
  · have ei : i = xs.length := by omega
    subst ei
    rw [List.drop_length] at hl
    have r9 : Rel X.K Z' Y H' (σ ++ [some (.ref D)]) (s' ++ [.ll acc]) := Rel.unwipe r' (vs := vs) ⟨(wipe_length σ vs).symm, fun j hj => (wipe_wipe.2 j hj).symm⟩ hl'' hno
    exact .inl ⟨wk.stop _ H' (hz'.trans r'.zh) (Nat.le_refl _), q _ H' Z' _ s' (hz.trans hz') (.own hl'.symm r9) hl⟩
theorem pfs_setLcL {i : Nat} {y : Str} {py : Pos} {elt tg iter : Expr} {ifs : List Expr} {scope : Scope} {own : List (Str × Nat)} {spos : Pos} {fi : FI} {fg : FG} (hc : X.calm = true) (hN : X.N.Nodup)
    (hsw : swapsWith (.ListComp elt [⟨tg, iter, ifs, 0⟩] scope pos) (some (.Name y py)) spos.line X.env = pure true) (hi : PFI X L tg iter fi) (ok : BlkOk X.N X.env.scope scope own)
    (hg : ∀ (s : Shared) (H : Hp) (C : Addr) (cl : List (Str × Addr)) (fp : List Addr), PFG (X.blk s H scope (compEnvC scope cl C X.env) fp) L.in0 (own.map fun p : Str × Nat => p.2) tg fg) (ht : ∀ (s : Shared) (H : Hp) (C : Addr) (cl : List (Str × Addr)) (fp : List Addr), PFTs (X.blk s H scope (compEnvC scope cl C X.env) fp) L.in0 ifs ft)
    (he : ∀ (s : Shared) (H : Hp) (C : Addr) (cl : List (Str × Addr)) (fp : List Addr), PF (X.blk s H scope (compEnvC scope cl C X.env) fp) L.in0 elt fa) (hy : X.N[i]? = some y := by rfl) (hyl : X.env.scope.names.lookup y = some .local := by rfl) (hio : i ∉ L.io := by exact of_decide_eq_true rfl)
    (hv : ∀ j ∈ (own.map fun p : Str × Nat => p.2), j ∉ L.io := by exact of_decide_eq_true rfl) (hs : ∀ x, foldedSetIterable iter X.env x = pure x := by intro _; rfl) :
    PFS X L (.Assign [.Name y py] (.ListComp elt [⟨tg, iter, ifs, 0⟩] scope pos) spos) (fAsg i (fLcL fi fg (own.map fun p : Str × Nat => p.2) ft fa)) :=
  PS_imp (ps_setLc (own := own) (wi := liftI X L fi) (g := liftG X L.in0 (own.map fun p : Str × Nat => p.2) fg) (tt := liftT X L.in0 ft) (te := liftE X L.in0 fa) hc hN hy hyl hsw hi ok hg (fun s H C cl fp => (ht s H C cl fp).h) he hs) fun D σ H ⟨Z, Y, s, Ef, r, k, h, eo⟩ => by
  refine fLcL_ok (Q := fun x H1 => gName i x σ H1 D.nx) hv ⟨Z, Y, s, Ef.xx, _, r, k, eo.xx, h, fun v H1 Z1 r1 s1 hz rx h1 => ?_⟩
  obtain ⟨Z2, s2, hz2, rl2, h2⟩ := putR_ok rx h1
  exact eo.nx _ H1 Z2 s2 (hz.trans hz2) (L.keeps_set k hio) rl2 h2
variable {y ya yb : Str} {px pa pb : Pos}
theorem pfs_setLL (i ia ib : Nat) {p1 p2 : Pos} (he : PF X L e fa) (ho : PE X (.Name y px) (tVar i)) (hja : PE X (.Name ya pa) (tVar ia)) (hjb : PE X (.Name yb pb) (tVar ib))
    (ha : ∀ v, assign (.Subscript (.Subscript (.Name y px) (.Name ya pa) p1) (.Name yb pb) p2) X.env v = (do
      let ov ← holding [v] (eval (.Subscript (.Name y px) (.Name ya pa) p1) X.env)
      let iv ← holding [v, ov] (eval (.Name yb pb) X.env)
      standAt p2
      holding [v, ov, iv] (setItem ov iv v)
      release [v, ov, iv] []) := by intro _; rfl)
    (hs : swapsWithSole [.Subscript (.Subscript (.Name y px) (.Name ya pa) p1) (.Name yb pb) p2] e pos.line X.env = pure false := by rfl) (hw : swappedStores [.Subscript (.Subscript (.Name y px) (.Name ya pa) p1) (.Name yb pb) p2] e X.env = pure none := by rfl)
    (h1 : (assignEach [.Subscript (.Subscript (.Name y px) (.Name ya pa) p1) (.Name yb pb) p2] X.env).map (·.2) = [assign (.Subscript (.Subscript (.Name y px) (.Name ya pa) p1) (.Name yb pb) p2) X.env] := by rfl)
    (hpl : PlainIx (.Name ya pa) := by exact fun _ _ => rfl) :
    PFS X L (.Assign [.Subscript (.Subscript (.Name y px) (.Name ya pa) p1) (.Name yb pb) p2] e pos) (fSetLL i ia ib fa) :=
  PS_imp (ps_asg he (pg_sub (pe_ix ix_list ho hja hpl) hjb set_list ha) hs hw h1) fun D σ H ⟨Z, Y, s, Ef, r, k, h, eo⟩ => by
  refine ⟨Z, Y, s, Ef.xx, _, r, k, eo.xx, h, fun v H1 Z1 r1 s1 hz rx h1 => ?_⟩
  obtain ⟨Z2, d, s2, hz2, rx2, xss, k1, k2, e0, e1, e2, l1, l2, l3, l4, h2⟩ := frz_ok (us := []) (ds := []) (vs := []) (rs := []) rx rfl h1
  obtain ⟨p, qs, q, vs, w1, w2, w3, w4, w5, w6, w7, wr⟩ := rx2.rel0.writeLL e0 l2
  obtain ⟨F1, s1'⟩ := rx2.rel0.slot ia
  rw [e1] at s1'
  obtain ⟨_, u1, v1, rp1⟩ := s1'
  cases rp1
  obtain ⟨F2, s2'⟩ := rx2.rel0.slot ib
  rw [e2] at s2'
  obtain ⟨_, u2, v2, rp2⟩ := s2'
  cases rp2
  have wl := w7.length
  have w := wr (vs.set k2.toNat v) ((xss.getD k1.toNat []).set k2.toNat d) (by rw [List.length_set]; exact w6) (w7.set rx2.vd _)
  refine ⟨.ref p, getD_some w1, .int k1, getD_some v1, p, qs.map V.ref, k1, .ref q, rfl, rfl, .inl (.inl w2), ?_, .int k2, getD_some v2, q, vs, k2, k2.toNat, rfl, rfl, w5, ?_, eo.nx σ _ Z2 _ (hz.trans hz2) k w h2⟩
  · obtain ⟨j, rfl⟩ := Int.eq_ofNat_of_zero_le l1
    rw [Int.toNat_natCast] at w4
    exact atI_nat (by rw [List.getElem?_map, w4]; rfl)
  · unfold ixN
    rw [if_pos l3, if_pos (by omega)]
end
theorem st_setLL {i ia ib : Nat} {a : FE} {E : FEnds} {s : S} (h : a E.xx s fun r s1 => frz r s1 fun d s2 => ∃ xss k1 k2, s2.getD i .no = .ll xss ∧ s2.getD ia .no = .d (.int k1) ∧ s2.getD ib .no = .d (.int k2) ∧ 0 ≤ k1 ∧ k1.toNat < xss.length ∧ 0 ≤ k2 ∧ k2.toNat < (xss.getD k1.toNat []).length ∧
  E.nx (s2.set i (.ll (xss.set k1.toNat ((xss.getD k1.toNat []).set k2.toNat d))))) : fSetLL i ia ib a E s := h
theorem compL_list {α : Type} {X : XF} {fg : FG} {wp : List Nat} {e : FE} {Q : R → S → Prop} {s : S} (g : α → D) (f : α → List D) (l : List α) (hs : ∀ a, a ∈ l → ∀ (kT : List D → S → Prop), kT (f a) s → fg (g a) s fun s1 => e X s1 fun r s3 => rowOf r fun ds => kT ds (wipeS s3 wp)) (h : Q (.own (.ll (l.map f))) s) :
    fCompL X fg wp fYes e Q (l.map g) [] s := by
  have go : ∀ (l : List α) (acc : List (List D)), (∀ a, a ∈ l → ∀ (kT : List D → S → Prop), kT (f a) s → fg (g a) s fun s1 => e X s1 fun r s3 => rowOf r fun ds => kT ds (wipeS s3 wp)) → Q (.own (.ll (acc ++ l.map f))) s → fCompL X fg wp fYes e Q (l.map g) acc s := by
    intro l
    induction l with
    | nil =>
      intro acc _ h
      rw [List.map_nil, List.append_nil] at h
      exact h
    | cons a l ih =>
      intro acc hs h
      rw [List.map_cons]
      show fg (g a) s fun s1 => e X s1 fun r s3 => rowOf r fun ds => fCompL X fg wp fYes e Q (l.map g) (acc ++ [ds]) (wipeS s3 wp)
      refine hs a List.mem_cons_self (fun ds s4 => fCompL X fg wp fYes e Q (l.map g) (acc ++ [ds]) s4) ?_
      refine ih _ (fun b hb => hs b (List.mem_cons_of_mem _ hb)) ?_
      rw [List.append_assoc]
      exact h
  exact go l [] hs h
end Hs
namespace Hs
open PySem
theorem st_rowOf {ds : List D} {k : List D → Prop} (h : k ds) : rowOf (.own (.l ds)) k := h
end Hs
namespace L2
open PySem PySem.Spec PyProof.Rows
end L2
namespace Hs
open PySem PySem.Spec PyProof.Rows L2
section
variable {K : PySem.W.Frag} {Z H : Hp} {v : V} {c : Str}
theorem RpV.exc (r : RpV K Z H v (.dict [(.none, .str c)])) (e : Same Z H) : ∃ a : Addr, v = .ref a ∧ H a = some (ExV (He.ga K c) a) := by
  rcases r with r | ⟨p, vs, xs', rfl, e2, h, z, a⟩ | ⟨p, kvs, rfl, e2, h⟩
  · generalize e0 : (PyData.dict [(.none, .str c)]) = d at r
    cases r with
    | lit h z =>
      unfold litD at e0
      injection e0 with e1
      injection e1 with e2 _
      injection e2 with _ e3
      cases e3
    | exc h =>
      unfold excD at e0
      injection e0 with e1
      injection e1 with e2 _
      injection e2 with _ e3
      injection e3 with e4
      subst e4
      exact ⟨_, rfl, e _ _ h⟩
    | dcK h a => cases e0; exact a.nolit.elim
    | dcT h a => cases e0
    | obj h1 h2 a => cases e0
    | _ => cases e0
  · cases e2
  · cases e2
    rcases h with ⟨ks, e1, r⟩ | ⟨ks, kvs', e0, e1, r⟩
    · exact r.nolit.elim
    · cases e0
end
def eqkB (b : Bool) (v : Value) : Bool := match v with
  | .bool c => c == b
  | _ => false
theorem bools_count {b : Bool} : ∀ {bs : List Bool} {us : List Value}, Vals (bs.map V.bl) us → us.countP (eqkB b) = bs.count b
  | [], _, .nil => rfl
  | c :: bs, u :: us, .cons r rr => by
    have ih := bools_count (b := b) rr
    cases r
    rw [List.countP_cons, List.count_cons, ih]
    rfl
theorem bools_are : ∀ {bs : List Bool} {us : List Value}, Vals (bs.map V.bl) us → ∀ u ∈ us, ∃ c, u = Value.bool c
  | [], _, .nil, u, h => by cases h
  | c :: bs, u :: us, .cons r rr, v, h => by
    cases r
    rcases List.mem_cons.mp h with rfl | h
    · exact ⟨c, rfl⟩
    · exact bools_are rr v h
end Hs
namespace Hs
open PySem PySem.Spec PyProof.Rows L2
end Hs
namespace Hs
open PySem PySem.Spec PyProof.Rows L2
def fEmD : FE := fun _ s Q => Q (.own (.dc [])) s
theorem st_emD {X : XF} {s : S} {Q : R → S → Prop} (h : Q (.own (.dc [])) s) : fEmD X s Q := h
end Hs
namespace Hs
open PySem PySem.Spec PyProof.Rows L2
end Hs
namespace Hs
open PySem PySem.Spec PyProof.Rows L2
def keyN : D → Option Key
  | .int i => some (.inl i)
  | .str x => some (.inr x)
  | _ => none
def keysN : List D → Option (List Key)
  | [] => some []
  | d :: r => match keyN d, keysN r with
    | some k, some ks => some (k :: ks)
    | _, _ => none
theorem keyN_keyD (k : Key) : keyN (keyD k) = some k := by cases k <;> rfl
theorem keysN_map : ∀ ks : List Key, keysN (ks.map keyD) = some ks
  | [] => rfl
  | k :: ks => by rw [List.map_cons, keysN, keyN_keyD, keysN_map ks]
def sameN (d : D) (k : Key) : Bool := decide (keyN d = some k)
def sameT (d : D) (k : List Key) : Bool := match d with
  | .tuple ds => decide (keysN ds = some k)
  | _ => false
theorem sameN_keyD (j k : Key) : sameN (keyD j) k = decide (j = k) := by
  unfold sameN
  rw [keyN_keyD]
  by_cases h : j = k
  · subst h; simp
  · rw [decide_eq_false h, decide_eq_false (fun e => h (Option.some.inj e))]
theorem sameT_keysD (j k : List Key) : sameT (keysD j) k = decide (j = k) := by
  unfold sameT keysD
  dsimp only
  rw [keysN_map]
  by_cases h : j = k
  · subst h; simp
  · rw [decide_eq_false h, decide_eq_false (fun e => h (Option.some.inj e))]
/-- what a dict holds -/
def dGet (kvs : List (D × D)) (k : D) (Q : Option D → Prop) : Prop := match kvs with
  | (.none, .none) :: r => match k with
    | .tuple ds => match keysN ds with
      | some ks => Q ((r.find? fun p => sameT p.1 ks).map (·.2))
      | none => False
    | _ => False
  | (.none, _) :: _ => False
  | kvs => match keyN k with
    | some k' => Q ((kvs.find? fun p => sameN p.1 k').map (·.2))
    | none => False
def putN (kvs : List (D × D)) (k : Key) (x : D) : List (D × D) :=
  if (kvs.any fun p => sameN p.1 k) = true then kvs.map (fun p => if sameN p.1 k = true then (p.1, x) else p) else kvs ++ [(keyD k, x)]
def putT (kvs : List (D × D)) (k : List Key) (x : D) : List (D × D) :=
  if (kvs.any fun p => sameT p.1 k) = true then kvs.map (fun p => if sameT p.1 k = true then (p.1, x) else p) else kvs ++ [(keysD k, x)]
def dPut (kvs : List (D × D)) (k x : D) (Q : List (D × D) → Prop) : Prop := match kvs with
  | (.none, .none) :: r => match k with
    | .tuple ds => match keysN ds with
      | some ks => r.length < sizeLine ∧ Q ((.none, .none) :: putT r ks x)
      | none => False
    | _ => False
  | (.none, _) :: _ => False
  | kvs => match keyN k with
    | some k' => kvs.length < sizeLine ∧ Q (putN kvs k' x)
    | none => False
section
variable {K : PySem.W.Frag} {Z H : Hp}
def OptR (K : PySem.W.Frag) (H : Hp) (v : Option V) (d : Option D) : Prop := match v, d with
  | none, none => True
  | some v, some d => Rp K H v d
  | _, _ => False
theorem RpK.get (k : Key) : ∀ {ks : List (Key × V)} {kvs : List (D × D)}, RpK K H ks kvs → OptR K H (valV ks k) ((kvs.find? fun p => sameN p.1 k).map (·.2))
  | _, _, .nil => True.intro
  | _, _, .cons (k := j) (ks := ks) h r => by
    rw [List.find?_cons]
    dsimp only
    rw [sameN_keyD]
    by_cases e : j = k
    · rw [decide_eq_true e, valV_pos (p := (j, _)) e]
      exact h
    · rw [decide_eq_false e, valV_neg (p := (j, _)) e]
      exact RpK.get k r
theorem RpT.get (k : List Key) : ∀ {ks : List (List Key × V)} {kvs : List (D × D)}, RpT K H ks kvs → OptR K H (valV ks k) ((kvs.find? fun p => sameT p.1 k).map (·.2))
  | _, _, .nil => True.intro
  | _, _, .cons (k := j) (ks := ks) h r => by
    rw [List.find?_cons]
    dsimp only
    rw [sameT_keysD]
    by_cases e : j = k
    · rw [decide_eq_true e, valV_pos (p := (j, _)) e]
      exact h
    · rw [decide_eq_false e, valV_neg (p := (j, _)) e]
      exact RpT.get k r
theorem RpK.any (k : Key) : ∀ {ks : List (Key × V)} {kvs : List (D × D)}, RpK K H ks kvs → (ks.any fun kv => decide (kv.1 = k)) = kvs.any fun p => sameN p.1 k
  | _, _, .nil => rfl
  | _, _, .cons (k := j) h r => by rw [List.any_cons, List.any_cons, RpK.any k r, sameN_keyD]
theorem RpT.any (k : List Key) : ∀ {ks : List (List Key × V)} {kvs : List (D × D)}, RpT K H ks kvs → (ks.any fun kv => decide (kv.1 = k)) = kvs.any fun p => sameT p.1 k
  | _, _, .nil => rfl
  | _, _, .cons (k := j) h r => by rw [List.any_cons, List.any_cons, RpT.any k r, sameT_keysD]
theorem RpK.repl (k : Key) {v : V} {x : D} (rv : Rp K H v x) : ∀ {ks : List (Key × V)} {kvs : List (D × D)}, RpK K H ks kvs → RpK K H (ks.map fun kv => if kv.1 = k then (kv.1, v) else kv) (kvs.map fun p => if sameN p.1 k = true then (p.1, x) else p)
  | _, _, .nil => .nil
  | _, _, .cons (k := j) h r => by
    rw [List.map_cons, List.map_cons]
    dsimp only
    rw [sameN_keyD]
    by_cases e : j = k
    · rw [if_pos e, if_pos (decide_eq_true e)]
      exact .cons rv (RpK.repl k rv r)
    · rw [if_neg e, if_neg (by simpa using e)]
      exact .cons h (RpK.repl k rv r)
theorem RpT.repl (k : List Key) {v : V} {x : D} (rv : Rp K H v x) : ∀ {ks : List (List Key × V)} {kvs : List (D × D)}, RpT K H ks kvs → RpT K H (ks.map fun kv => if kv.1 = k then (kv.1, v) else kv) (kvs.map fun p => if sameT p.1 k = true then (p.1, x) else p)
  | _, _, .nil => .nil
  | _, _, .cons (k := j) h r => by
    rw [List.map_cons, List.map_cons]
    dsimp only
    rw [sameT_keysD]
    by_cases e : j = k
    · rw [if_pos e, if_pos (decide_eq_true e)]
      exact .cons rv (RpT.repl k rv r)
    · rw [if_neg e, if_neg (by simpa using e)]
      exact .cons h (RpT.repl k rv r)
theorem RpK.snoc {k : Key} {v : V} {x : D} (rv : Rp K H v x) : ∀ {ks : List (Key × V)} {kvs : List (D × D)}, RpK K H ks kvs → RpK K H (ks ++ [(k, v)]) (kvs ++ [(keyD k, x)])
  | _, _, .nil => .cons rv .nil
  | _, _, .cons h r => .cons h (RpK.snoc rv r)
theorem RpT.snoc {k : List Key} {v : V} {x : D} (rv : Rp K H v x) : ∀ {ks : List (List Key × V)} {kvs : List (D × D)}, RpT K H ks kvs → RpT K H (ks ++ [(k, v)]) (kvs ++ [(keysD k, x)])
  | _, _, .nil => .cons rv .nil
  | _, _, .cons h r => .cons h (RpT.snoc rv r)
theorem RpK.put (k : Key) {v : V} {x : D} (rv : Rp K H v x) {ks : List (Key × V)} {kvs : List (D × D)} (r : RpK K H ks kvs) : RpK K H (putK ks k v) (putN kvs k x) := by
  unfold putK putN
  rw [r.any k]
  split
  · exact r.repl k rv
  · exact r.snoc rv
theorem RpT.put (k : List Key) {v : V} {x : D} (rv : Rp K H v x) {ks : List (List Key × V)} {kvs : List (D × D)} (r : RpT K H ks kvs) : RpT K H (putK ks k v) (putT kvs k x) := by
  unfold putK putT
  rw [r.any k]
  split
  · exact r.repl k rv
  · exact r.snoc rv
theorem RpK.length : ∀ {ks : List (Key × V)} {kvs : List (D × D)}, RpK K H ks kvs → ks.length = kvs.length
  | _, _, .nil => rfl
  | _, _, .cons _ r => congrArg (· + 1) (RpK.length r)
theorem RpT.length : ∀ {ks : List (List Key × V)} {kvs : List (D × D)}, RpT K H ks kvs → ks.length = kvs.length
  | _, _, .nil => rfl
  | _, _, .cons _ r => congrArg (· + 1) (RpT.length r)
/-- a dict that is looked at -/
theorem RpV.dict {v : V} {kvs : List (D × D)} (r : RpV K Z H v (.dict kvs)) (e : Same Z H) : (∃ p ks, v = .ref p ∧ Rd H p (.dK ks) ∧ RpK K Z ks kvs) ∨ (∃ p ks kvs', v = .ref p ∧ kvs = (.none, .none) :: kvs' ∧ H p = some (.dT ks) ∧ RpT K Z ks kvs') ∨ ∃ x r, kvs = (.none, x) :: r ∧ x ≠ .none := by
  rcases r with r | ⟨p, vs, xs', rfl, e2, h, z, a⟩ | ⟨p, kvs', rfl, e2, h⟩
  · generalize e0 : (PyData.dict kvs) = d at r
    cases r with
    | dcK h a => cases e0; exact .inl ⟨_, _, rfl, same_rd e h, a⟩
    | dcT h a => cases e0; exact .inr (.inl ⟨_, _, _, rfl, rfl, e _ _ h, a⟩)
    | lit h z => cases e0; exact .inr (.inr ⟨_, _, rfl, fun z => nomatch z⟩)
    | exc h => cases e0; exact .inr (.inr ⟨_, _, rfl, fun z => nomatch z⟩)
    | obj h1 h2 a => cases e0; exact .inr (.inr ⟨_, _, rfl, fun z => nomatch z⟩)
    | _ => cases e0
  · cases e2
  · cases e2
    rcases h with ⟨ks, e1, r⟩ | ⟨ks, kvs', e0, e1, r⟩
    · exact .inl ⟨_, _, rfl, .inl e1, r⟩
    · exact .inr (.inl ⟨_, _, _, rfl, e0, e1, r⟩)
theorem RpV.key {v : V} {k : Key} (r : RpV K Z H v (keyD k)) : v = kV k := by
  cases k with
  | inl i => exact RpV.int r
  | inr x => exact RpV.str r
theorem RpAll.keys : ∀ {vs : List V} {ks : List Key}, RpAll K Z vs (ks.map keyD) → vs = ks.map kV
  | _, [], .nil => rfl
  | _, k :: ks, .cons h a => by
    rw [RpAll.keys a, RpV.key (H := Z) (.inl h)]; rfl
theorem RpV.keys {v : V} {ks : List Key} (r : RpV K Z H v (.tuple (ks.map keyD))) (e : Same Z H) : ∃ b, v = .ref b ∧ H b = some (.tup (ks.map kV)) := by
  have r := fop_add.RpV.tupZ r
  cases r with
  | tup h z a =>
    rw [a.keys] at h
    exact ⟨_, rfl, e _ _ h⟩
end
theorem OptR.isSome {K : PySem.W.Frag} {H : Hp} {o : Option V} {d : Option D} (r : OptR K H o d) : o.isSome = d.isSome := by
  cases o <;> cases d <;> first | rfl | exact r.elim
section
variable {X : Cx} {L : Lv} {e a b c : Expr} {es : List Expr} {fa fb fc fj fx : FE} {ft : FT} {fr : FA} {pos p : Pos}
/-- d[k], xs[k] -/
def ixD2 : V2 := fun d e Q => ixD d e Q ∨ ∃ kvs, d = .dict kvs ∧ dGet kvs e fun o => ∃ x, o = some x ∧ Q (.d x)
/-- k in d, k in xs -/
def cInK : V2 := fun d e Q => cIn d e Q ∨ ∃ kvs, e = .dict kvs ∧ dGet kvs d fun o => Q (.d (.bool o.isSome))
def cNotInK : V2 := fun d e Q => cNotIn d e Q ∨ ∃ kvs, e = .dict kvs ∧ dGet kvs d fun o => Q (.d (.bool (!o.isSome)))
def onDc (i : Nat) (s : S) (k : List (D × D) → Prop) : Prop := match s.getD i .no with
  | .dc kvs => k kvs
  | _ => False
/-- d[k] = x -/
def fSetD (i : Nat) (j a : FE) : FS := fun E s => a E.xx s fun r s1 => onDc i s1 fun _ => j E.xx s1 fun rj s2 => frzAll [r, rj] s2 fun ds s3 => match ds with
  | [d, k] => onDc i s3 fun kvs => dPut kvs k d fun kvs' => E.nx (s3.set i (.dc kvs'))
  | _ => False
variable {y : Str} {px : Pos}
/-- d.get(k, x) -/
def fDGet2 (i : Nat) (j x : FE) : FE := fun X s Q => onDc i s fun _ => j X s fun rj s1 => x X s1 fun rx s2 => frzAll [rj, rx] s2 fun ds s3 => match ds with
  | [k, d] => onDc i s3 fun kvs => dGet kvs k fun o => Q (.d (o.getD d)) s3
  | _ => False
theorem NewR.dc {K : PySem.W.Frag} {Z H : Hp} {p : Addr} {o : HO} {kvs : List (D × D)} (e : Same Z H) (hp : H p = none) (h : DcAt K Z (upd H p o) p kvs) : NewR K Z H Z (upd H p o) (.ref p) (.own (.dc kvs)) :=
  ⟨same_upd hp, Same.refl _, e.trans (same_upd hp), fun _ _ => rfl, [p], ⟨p, rfl, rfl, h⟩, by simp, fun a ha => by
    obtain rfl : a = p := by simpa using ha
    exact ⟨hp, e.free hp⟩⟩
def downD (hi : Int) (n : Nat) : List D := (List.range n).map fun (k : Nat) => PyData.int (hi - (k : Int))
def iRange3 (a : FA) : FI := fun X s Q => a X s fun rs s2 => match rs with
  | [.d (.int i), .d (.int j), .d (.int c)] => c = -1 ∧ lim62 i ∧ lim62 j ∧ Q (downD i (i - j).toNat) s2
  | _ => False
def fEmT : FE := fun _ s Q => Q (.own (.dc [(.none, .none)])) s
end
end Hs
namespace Hs
open PySem PySem.Spec PyProof.Rows L2
section
variable {K : PySem.W.Frag} {Z Z' Y Y' H H' : Hp} {σ σ' : St} {s s' : S}
theorem DcAt.notup {p : Addr} {kvs : List (D × D)} (h : DcAt K Z H p kvs) (vs : List V) : H p ≠ some (.tup vs) := by
  rcases h with ⟨ks, e1, r⟩ | ⟨ks, kvs', e0, e1, r⟩ <;> (rw [e1]; exact fun z => nomatch z)
theorem PartAt.notup {v : V} {w : PV} {F : List Addr} (h : PartAt K Z H v w F) (us : List V) : ∀ a ∈ F, H a ≠ some (.tup us) := fun a ha => h.nt a ha us
theorem TpAt.notup {vs : List V} {ws : List PV} {F : List Addr} (h : TpAt K Z H vs ws F) (us : List V) : ∀ a ∈ F, H a ≠ some (.tup us) := by
  induction h with
  | nil => intro a ha; cases ha
  | cons h r ih =>
    intro a ha
    rcases List.mem_append.mp ha with ha | ha
    · exact h.notup us a ha
    · exact ih a ha
theorem SlotAt.notup {v : Option V} {sv : SV} {F : List Addr} (h : SlotAt K Z H v sv F) (us : List V) : ∀ a ∈ F, H a ≠ some (.tup us) := by
  have LLt : ∀ {qs : List Addr} {xss : List (List D)}, LL K Z H qs xss → ∀ a ∈ qs, H a ≠ some (.tup us) := by
    intro qs xss r
    induction r with
    | nil => intro a ha; cases ha
    | cons h z a r ih =>
      intro b hb
      rcases List.mem_cons.mp hb with rfl | hb
      · rw [h]; exact fun z => nomatch z
      · exact ih b hb
  intro a ha
  cases sv with
  | no => rw [show F = [] from h] at ha; cases ha
  | d x => rw [h.1] at ha; cases ha
  | l xs =>
    obtain ⟨p, vs, h1, h2, h3, h4, h5⟩ := h
    rw [h2] at ha
    obtain rfl : a = p := by simpa using ha
    rw [h3]; exact fun z => nomatch z
  | ll xss =>
    obtain ⟨p, qs, h1, h2, h3, h4, h5⟩ := h
    rw [h2] at ha
    rcases List.mem_cons.mp ha with rfl | ha
    · rw [h3]; exact fun z => nomatch z
    · exact LLt h5 a ha
  | dc kvs =>
    obtain ⟨p, h1, h2, h3⟩ := h
    rw [h2] at ha
    obtain rfl : a = p := by simpa using ha
    exact h3.notup us
  | ob c fs =>
    obtain ⟨p, dx, vs, G, h1, h2, h3, h4, h5⟩ := h
    rw [h2] at ha
    rcases List.mem_cons.mp ha with rfl | ha
    · rw [h3]; exact fun z => nomatch z
    · rcases List.mem_cons.mp ha with rfl | ha
      · rw [h4]; exact fun z => nomatch z
      · exact h5.notup us a ha
  | tp ws =>
    obtain ⟨p, vs, h1, h3, h4, h5⟩ := h
    exact h5.notup us a ha
  | lo ws =>
    obtain ⟨p, vs, G, h1, h2, h3, h4, h5⟩ := h
    rw [h2] at ha
    rcases List.mem_cons.mp ha with rfl | ha
    · rw [h3]; exact fun z => nomatch z
    · exact h5.notup us a ha
def frz1 (w : SV) : SV := match asD w with
  | some x => .d x
  | none => .no
def frzS (s : S) : S := s.map frz1
theorem frzS_get (s : S) (i : Nat) : (frzS s).getD i .no = frz1 (s.getD i .no) := by
  unfold frzS
  rw [List.getD_eq_getElem?_getD, List.getD_eq_getElem?_getD, List.getElem?_map]
  cases s[i]? <;> rfl
theorem Rel.frzS (r : Rel K Z Y H σ s) : ∃ (F : Nat → List Addr) (Z' : Hp), OwnF K Z Y H σ s F ∧ Same Z Z' ∧ (∀ i, ∀ a ∈ F i, Z' a = H a) ∧ Rel K Z' Y H σ (Hs.frzS s) := by
  classical
  obtain ⟨F, o⟩ := r.own
  let Z' : Hp := fun a => if ∃ i, a ∈ F i then H a else Z a
  have hz : Same Z Z' := fun a q e => by
    show (if _ then _ else _) = _
    rw [if_neg (fun ⟨i, h⟩ => by rw [(o.fr i a h).1] at e; cases e)]
    exact e
  have zh : Same Z' H := fun a q e => by
    have e : (if ∃ i, a ∈ F i then H a else Z a) = some q := e
    split at e
    · exact e
    · exact r.zh a q e
  refine ⟨F, Z', o, hz, fun i a ha => if_pos ⟨i, ha⟩, zh, r.yh, fun a ha => ?_, r.yt, by unfold Hs.frzS; rw [List.length_map]; exact r.len, fun _ => [], fun i => ?_, fun _ => .nil, fun _ _ _ ha => (nomatch ha), fun _ _ ha => (nomatch ha)⟩
  · have e : (if ∃ i, a ∈ F i then H a else Z a) ≠ none := ha
    split at e
    · rename_i hc
      obtain ⟨i, hi⟩ := hc
      exact (o.fr i a hi).2
    · exact r.zy a e
  · rw [frzS_get]
    unfold frz1
    cases e : asD (s.getD i .no) with
    | none => exact rfl
    | some x =>
      have q' : SlotAt K Z' Z' (σ.getD i none) (s.getD i .no) (F i) := (o.at_ i).mono hz fun a ha ob e => (if_pos ⟨i, ha⟩ : (if ∃ i, a ∈ F i then H a else Z a) = H a).trans e
      obtain ⟨u, h1, h2⟩ := q'.asD (Same.refl _) e
      exact ⟨rfl, u, h1, h2⟩
/-- values without lists and dicts -/
def flatD : D → Bool
  | .none | .bool _ | .int _ | .str _ => true
  | .tuple ds => flatL ds
  | _ => false
where flatL : List D → Bool
  | [] => true
  | d :: ds => flatD d && flatL ds
mutual
theorem Rp.flat (h : ∀ a vs, Z a = some (.tup vs) → Z' a = some (.tup vs)) : ∀ (d : PyData) (v : V), flatD d = true → Rp K Z v d → Rp K Z' v d
  | .none, _, _, .non => .non
  | .bool _, _, _, .bl b => .bl b
  | .int _, _, _, .int i => .int i
  | .str _, _, _, .str x => .str x
  | .list ds, _, f, _ => by simp [flatD] at f
  | .tuple ds, _, f, .tup q z a => .tup (h _ _ q) z (RpAll.flat h ds _ (by simpa [flatD] using f) a)
  | .dict _, _, f, _ => by simp [flatD] at f
theorem RpAll.flat (h : ∀ a vs, Z a = some (.tup vs) → Z' a = some (.tup vs)) : ∀ (ds : List PyData) (vs : List V), flatD.flatL ds = true → RpAll K Z vs ds → RpAll K Z' vs ds
  | [], _, _, .nil => .nil
  | d :: ds, _, f, .cons r a => by
    have f' : flatD d = true ∧ flatD.flatL ds = true := by simpa [flatD.flatL] using f
    exact .cons (Rp.flat h d _ f'.1 r) (RpAll.flat h ds _ f'.2 a)
end
/-- what comes and holds nothing of what was looked at -/
def flatR (r : R) (k : Prop) : Prop := match r with
  | .d x => flatD x = true ∧ k
  | .own (.l xs) => flatD.flatL xs = true ∧ k
  | _ => False
/-- an expression that only looks at what the slots hold -/
def fBor (e : FE) : FE := fun _ s Q => e (fun _ _ => False) (frzS s) fun r _ => flatR r (Q r s)
def fBorT (t : FT) : FT := fun _ s Q => t (fun _ _ => False) (frzS s) fun b _ => Q b s
/-- behind it -/
theorem Rel.free (r : Rel K Z Y H σ s) {F : Nat → List Addr} {Z1 Z2 : Hp} (o : OwnF K Z Y H σ s F) (hz1 : Same Z Z1) (h1 : ∀ i, ∀ a ∈ F i, Z1 a = H a) (hz2 : Same Z1 Z2) (zh : Same Z2 H') (yh : Same Y H') (zy : ∀ a, Z2 a ≠ none → Y a = none) :
    ∃ Z3, Same Z Z3 ∧ Same Z3 Z2 ∧ (∀ a vs, Z2 a = some (.tup vs) → Z3 a = some (.tup vs)) ∧ OwnF K Z3 Y H' σ s F ∧ (∀ i, ∀ a ∈ F i, Z2 a ≠ none) ∧ (∀ i, ∀ a ∈ F i, Z3 a = none) ∧ Rel K Z3 Y H' σ s := by
  classical
  let Z3 : Hp := fun a => if ∃ i, a ∈ F i then none else Z2 a
  have s3 : Same Z3 Z2 := fun a q e => by
    have e : (if ∃ i, a ∈ F i then none else Z2 a) = some q := e
    split at e
    · cases e
    · exact e
  have in2 : ∀ i, ∀ a ∈ F i, ∀ ob, H a = some ob → Z2 a = some ob := fun i a ha ob e => hz2 a ob ((h1 i a ha).trans e)
  have s03 : Same Z Z3 := fun a q e => by
    show (if _ then _ else _) = _
    rw [if_neg (fun ⟨i, h⟩ => by rw [(o.fr i a h).1] at e; cases e)]
    exact hz2 a q (hz1 a q e)
  have n3 : ∀ i, ∀ a ∈ F i, Z3 a = none := fun i a ha => if_pos ⟨i, ha⟩
  have oo : OwnF K Z3 Y H' σ s F := ⟨fun i => (o.at_ i).mono s03 fun a ha ob e => zh a ob (in2 i a ha ob e), o.nd, o.dj, fun i a ha => ⟨n3 i a ha, (o.fr i a ha).2⟩⟩
  refine ⟨Z3, s03, s3, fun a vs e => ?_, oo, fun i a ha => ?_, n3, s3.trans zh, yh, fun a ha => ?_, r.yt, r.len, F, oo⟩
  · show (if _ then _ else _) = _
    rw [if_neg]
    · exact e
    · rintro ⟨i, hi⟩
      cases eh : H a with
      | none => exact (o.at_ i).there a hi eh
      | some ob =>
        have := in2 i a hi ob eh
        rw [e] at this
        cases this
        exact (o.at_ i).notup vs a hi eh
  · cases eh : H a with
    | none => exact ((o.at_ i).there a ha eh).elim
    | some ob => rw [in2 i a ha ob eh]; exact fun z => nomatch z
  · cases e : Z3 a with
    | none => exact (ha e).elim
    | some q => exact zy a (by rw [s3 a q e]; exact fun z => nomatch z)
end
section
variable {X : Cx} {L : Lv} {e a b c : Expr} {es : List Expr} {fa fb fc fj fx : FE} {ft : FT} {fr : FA} {pos p : Pos}
theorem bor_ok {σ : St} {H : Hp} {Q : VK} (h0 : liftE X L (fBor fa) σ H Q) : liftE X L fa σ H Q := by
  obtain ⟨Z, Y, s, Xf, Qf, r, k, xo, h, q⟩ := h0
  obtain ⟨F, Z1, o, hz1, h1, r1⟩ := r.frzS
  refine ⟨Z1, Y, frzS s, _, _, r1, k, fun _ _ _ _ _ _ _ _ _ h _ => h.elim, h, fun v H' Z2 rr s' hz2 rx hq => ?_⟩
  obtain ⟨Z3, s03, s32, ht, oo, in2, n3, rl⟩ := r.free o hz1 h1 hz2 rx.rel0.zh rx.rel0.yh rx.rel0.zy
  cases rr with
  | d x => exact q v H' Z3 _ s s03 (.d rl (Rp.flat ht x v hq.1 rx.vd)) hq.2
  | top i => exact hq.elim
  | own w =>
    cases w with
    | l xs =>
      refine q v H' Z3 _ s s03 (.own rl.len ?_) hq.2
      obtain ⟨G, oG⟩ := rx.rel.own
      have sl := oG.at_ σ.length
      rw [getD_app_ge (Nat.le_refl _), Nat.sub_self, getD_app_ge (by have := rx.l1; omega), ← rx.l1, Nat.sub_self] at sl
      obtain ⟨p, vs, e1, e2, e3, e4, e5⟩ := sl
      cases e1
      have fp := oG.fr σ.length p (by rw [e2]; exact List.mem_cons_self)
      have hn : ∀ i, p ∉ F i := fun i hi => in2 i p hi fp.1
      have p3 : Z3 p = none := by
        cases ez : Z3 p with
        | none => rfl
        | some ob => rw [s32 p ob ez] at fp; cases fp.1
      refine ⟨rl.zh, rl.yh, rl.zy, rl.yt, by rw [List.length_append, List.length_append, rl.len]; rfl, fun i => if i = σ.length then [p] else F i, fun i => ?_, fun i => ?_, fun i j a ha ha' => ?_, fun i a ha => ?_⟩
      · have hl := rl.len
        by_cases hi : i = σ.length
        · rw [if_pos hi, getD_app_ge (by omega), getD_app_ge (by omega), hi, Nat.sub_self, ← hl, Nat.sub_self]
          exact ⟨p, vs, rfl, rfl, e3, e4, RpAll.flat ht xs vs hq.1 e5⟩
        · rw [if_neg hi]
          have q := oo.at_ i
          by_cases hlt : i < σ.length
          · rw [getD_app_lt hlt, getD_app_lt (by omega)]
            exact q
          · rw [getD_out (l := s ++ [_]) (by rw [List.length_append]; show s.length + 1 ≤ i; omega)]
            rw [getD_out (l := s) (by omega)] at q
            exact q
      · by_cases hi : i = σ.length
        · rw [if_pos hi]; simp
        · rw [if_neg hi]; exact oo.nd i
      · by_cases hi : i = σ.length
        · rw [if_pos hi] at ha
          obtain rfl : a = p := by simpa using ha
          by_cases hj : j = σ.length
          · rw [hi, hj]
          · rw [if_neg hj] at ha'; exact (hn j ha').elim
        · rw [if_neg hi] at ha
          by_cases hj : j = σ.length
          · rw [if_pos hj] at ha'
            obtain rfl : a = p := by simpa using ha'
            exact (hn i ha).elim
          · rw [if_neg hj] at ha'; exact oo.dj i j a ha ha'
      · by_cases hi : i = σ.length
        · rw [if_pos hi] at ha
          obtain rfl : a = p := by simpa using ha
          exact ⟨p3, fp.2⟩
        · rw [if_neg hi] at ha; exact oo.fr i a ha
    | _ => exact hq.elim
/-- a comprehension that only looks, stored under a name -/
theorem pfs_setLcB {i : Nat} {y : Str} {py pos : Pos} {elt tg iter : Expr} {ifs : List Expr} {scope : Scope} {own : List (Str × Nat)} {spos : Pos} {fi : FI} {fg : FG} (hc : X.calm = true) (hN : X.N.Nodup)
    (hsw : swapsWith (.ListComp elt [⟨tg, iter, ifs, 0⟩] scope pos) (some (.Name y py)) spos.line X.env = pure true) (hi : PFI X L tg iter fi) (ok : BlkOk X.N X.env.scope scope own)
    (hg : ∀ (s : Shared) (H : Hp) (C : Addr) (cl : List (Str × Addr)) (fp : List Addr), PFG (X.blk s H scope (compEnvC scope cl C X.env) fp) L.in0 (own.map fun p : Str × Nat => p.2) tg fg) (ht : ∀ (s : Shared) (H : Hp) (C : Addr) (cl : List (Str × Addr)) (fp : List Addr), PFTs (X.blk s H scope (compEnvC scope cl C X.env) fp) L.in0 ifs ft)
    (he : ∀ (s : Shared) (H : Hp) (C : Addr) (cl : List (Str × Addr)) (fp : List Addr), PF (X.blk s H scope (compEnvC scope cl C X.env) fp) L.in0 elt fa) (hy : X.N[i]? = some y := by rfl) (hyl : X.env.scope.names.lookup y = some .local := by rfl) (hio : i ∉ L.io := by exact of_decide_eq_true rfl)
    (hv : ∀ j ∈ (own.map fun p : Str × Nat => p.2), j ∉ L.io := by exact of_decide_eq_true rfl) (hs : ∀ x, foldedSetIterable iter X.env x = pure x := by intro _; rfl) :
    PFS X L (.Assign [.Name y py] (.ListComp elt [⟨tg, iter, ifs, 0⟩] scope pos) spos) (fAsg i (fBor (fLc fi fg (own.map fun p : Str × Nat => p.2) ft fa))) :=
  PS_imp (ps_setLc (own := own) (wi := liftI X L fi) (g := liftG X L.in0 (own.map fun p : Str × Nat => p.2) fg) (tt := liftT X L.in0 ft) (te := liftE X L.in0 fa) hc hN hy hyl hsw hi ok hg (fun s H C cl fp => (ht s H C cl fp).h) he hs) fun D σ H ⟨Z, Y, s, Ef, r, k, h, eo⟩ => by
  have hB : liftE X L (fBor (fLc fi fg (own.map fun p : Str × Nat => p.2) ft fa)) σ H (fun x H1 => gName i x σ H1 D.nx) := ⟨Z, Y, s, Ef.xx, _, r, k, eo.xx, h, fun v H1 Z1 r1 s1 hz rx h1 => by
    obtain ⟨Z2, s2, hz2, rl2, h2⟩ := putR_ok rx h1
    exact eo.nx _ H1 Z2 s2 (hz.trans hz2) (L.keeps_set k hio) rl2 h2⟩
  exact fLc_ok hv (bor_ok hB)
def fDisp1 (k v : FE) : FE := fun X s Q => k X s fun rk s1 => v X s1 fun rv s2 => frzAll [rk, rv] s2 fun ds s3 => match ds with
  | [kd, d] => match keyN kd with
    | some k' => Q (.own (.dc [(keyD k', d)])) s3
    | none => False
  | _ => False
end
def toPs : List SV → (List PV → Prop) → Prop
  | [], k => k []
  | .d x :: r, k => toPs r fun ws => k (.d x :: ws)
  | .l xs :: r, k => toPs r fun ws => k (.l xs :: ws)
  | .dc kvs :: r, k => toPs r fun ws => k (.dc kvs :: ws)
  | .ob c fs :: r, k => toPs r fun ws => k (.o c fs :: ws)
  | _ :: _, _ => False
def fTupO (a : FA) : FE := fun X s Q => a X s fun rs s1 => bindA (List.replicate rs.length true) rs s1 fun svs s2 => toPs svs fun ws => Q (.own (.tp ws)) s2
section
variable {X : Cx} {L : Lv} {e a b c : Expr} {es : List Expr} {fa fb fc fj fx : FE} {ft : FT} {fr : FA} {pos p : Pos}
def onP (i k : Nat) (s : S) (kk : List PV → List D → Prop) : Prop := match s.getD i .no with
  | .tp ws => match ws[k]? with
    | some (.l xs) => kk ws xs
    | _ => False
  | _ => False
/-- t[k].m(..) -/
def fLmP (i k : Nat) (g : LM) (a : FA) : FE := fun X s Q => onP i k s fun _ _ => a X s fun rs s1 => frzAll rs s1 fun ds s2 => onP i k s2 fun ws xs => g xs ds fun d xs' => Q (.d d) (s2.set i (.tp (ws.set k (.l xs'))))
variable {nm : Str} {apos cpos : Pos} {y : Str} {px p1 p2 : Pos} {j : Nat} {id : String}
end
abbrev MR := D → List D → (D → Prop) → Prop
def fMt (g : MR) (a : FE) (r : FA) : FE := fun X s Q => a X s fun ro s1 => look s1 ro fun d0 => match d0 with
  | .list _ => r X s1 fun rs s2 => frzAll (ro :: rs) s2 fun ds s3 => match ds with
    | d :: es => g d es fun x => Q (.d x) s3
    | [] => False
  | _ => False
def rMt (K : PySem.W.Frag) (g : MR) : V → List V → Hp → VK → Prop := fun x us H Q => ∃ Z d ds Qf, Same Z H ∧ Rp K Z x d ∧ RpAll K Z us ds ∧ g d ds Qf ∧ ∀ u d', Qf d' → Rp K Z u d' → Q u H
section
variable {X : Cx} {L : Lv} {e o : Expr} {es : List Expr} {fa : FE} {fr : FA} {g : MR}
theorem fMt_ok' {n : Nat} {σ : St} {H : Hp} {Q : VK} (h : liftE X L (fMt g fa fr) σ H Q) : tBM X.K "list" (rMt X.K g) (liftE X L fa) (liftA X L n fr) σ H Q := by
  obtain ⟨Z, Y, s, Xf, Qf, r, k, xo, h, q⟩ := h
  refine ⟨Z, Y, s, Xf, _, r, k, xo, h, fun v H1 Z1 r1 s1 hz rx h1 => ?_⟩
  obtain ⟨d0, e1, h2⟩ := look_ok h1
  obtain ⟨v', ev, rv⟩ := rx.look (k := 0) rfl e1
  cases ev
  split at h2
  · obtain ⟨p, vs, rfl, g1, g2, g3⟩ := rv.list rx.rel0.zh
    obtain ⟨Y', hy, rl, bk, fw⟩ := rx.frame
    refine ⟨.inl ⟨rfl, vs, .inl g1⟩, Z1, Y', s1, Xf, _, rl, k, (xo.z hz).mono (Same.refl _) bk, h2, fun us H2 Z2 rs s2 hz2 rx2 hn h3 => ?_⟩
    have rx3 := fw Z2 H2 s2 us rs hz2 rx2
    obtain ⟨Z3, ds, s3, hz3, rx4, h4⟩ := frzAll_ok (us := []) (ds := []) rx3 rfl h3
    have ra := rx4.rps
    cases ra with
    | cons rd ra =>
      exact ⟨Z3, _, _, _, rx4.rel0.zh, rd, ra, h4, fun u d' hq ru => q u H2 Z3 _ s3 ((hz.trans hz2).trans hz3) (.d rx4.rel0 ru) hq⟩
  · exact h2.elim
variable {nm : Str} {apos cpos : Pos} {id : String}
theorem pf_mt (slot : Slot "list" nm id) (hty : typeOf (.builtin id) = pure (.type "method_descriptor")) (hm : MtR X id (rMt X.K g)) (ho : PF X L o fa) (ha : PFA X L (e :: es) fr)
    (hbase : attributeBase o nm X.env (eval o X.env) = eval o X.env := by rfl)
    (hfew : ((backTo cpos (starEach (e :: es) X.env)).all (fun x => !x.1) && (backToKw cpos (keywordEach [] X.env)).all (fun x => x.1.isSome)
      && decide ((e :: es).length + ([] : List Keyword).length + (if ([] : List Keyword).isEmpty then 0 else 1) < 30)) = true := by rfl)
    (hline : (apos.endLine == cpos.line) = true := by rfl) (hs : starEach (e :: es) X.env = (false, eval e X.env) :: starEach es X.env := by rfl) (hplain : (backTo cpos (starEach es X.env)).any (·.1) = false := by rfl) :
    PF X L (.Call (.Attribute o nm apos) (e :: es) [] cpos) (fMt g fa fr) := PE_imp (pe_bm PySem.F.plainAttrs_list slot hty hm ho ha hbase hfew hline hs hplain) fun _ _ _ => fMt_ok'
def gCountB : MR := fun d ds k => match d, ds with
  | .list xs, [.bool b] => match boolsOf xs with
    | some bs => k (.int (bs.count b : Nat))
    | none => False
  | _, _ => False
theorem fr_countB : MtR X "list.count" (rMt X.K gCountB) := by
  intro pins s σ H x us v vs Q I rx rv ⟨Z, d, ds, Qf, hz, rd, ra, g, q⟩
  unfold gCountB at g
  split at g
  · rename_i xs0 bb
    split at g
    · rename_i bs eb
      cases ra with
      | cons r1 r2 =>
        cases r2
        cases r1
        cases rd with
        | lst h z a =>
          rw [boolsOf_eq eb] at a
          rw [a.bools] at h
          cases rx
          obtain ⟨u, rfl, ru⟩ := rv.one
          cases ru
          obtain ⟨_, its, n, r, e⟩ := (same_rd hz h).ok I.hok
          refine call_meets PySem.F.slot_list_count ⟨_, e, rfl⟩ PySem.F.entry_list_count (PySem.F.args_list_count_2 _ _)
            (SeqAt.list_countAt _ its.toArray n _ _ (.bool bb) (eqkB bb)) ⟨e, fun y hy => ?_, ?_⟩
          · obtain ⟨c, rfl⟩ := bools_are r y (by simpa using hy)
            exact SeqAt.EqAt.bool_bool c bb
          · have ec : its.toArray.toList.countP (eqkB bb) = bs.count bb := bools_count r
            refine ⟨.int (bs.count bb : Nat), H, I.tok _, ⟨s.toks, ?_⟩, q _ _ g (.int _)⟩
            show Value.int ((its.toArray.toList.countP (eqkB bb) : Nat) : Int) s.toks = Value.int ((bs.count bb : Nat) : Int) s.toks
            rw [ec]
    · exact g.elim
  · exact g.elim
end
end Hs
namespace Hs
open PySem PySem.Spec PyProof.Rows L2
theorem idx_first {z : Int} : ∀ (ns : List Int) (m : Nat), m < ns.idxOf z → ns[m]? ≠ some z
  | [], m, h => by simp at h
  | n :: ns, m, h => by
    rw [List.idxOf_cons] at h
    by_cases e : n = z
    · subst e
      simp at h
    · rw [show (n == z) = false from by simp [e]] at h
      cases m with
      | zero => simpa using e
      | succ m => simpa using idx_first ns m (by simpa using h)
def mRemove : LM := fun xs ds k => match ds with
  | [.int z] => match intsOf xs with
    | some ns => z ∈ ns ∧ k .none ((ns.eraseIdx (ns.idxOf z)).map .int)
    | none => False
  | _ => False
section
variable {X : Cx}
theorem fm_remove : MtR X "list.remove" (rLm X.K mRemove) := by
  intro pins s σ H x us v vs Q I rx rv ⟨Z, p, ws, xs, ds, Qf, ex, hp, hl, ra, hz, rd, g, q⟩
  unfold mRemove at g
  split at g
  · rename_i z
    split at g
    · rename_i ns eb
      obtain ⟨hm, g⟩ := g
      cases rd with
      | cons r1 r2 =>
        cases r2
        cases r1
        rw [intsOf_eq eb] at ra
        have l0 := ra.length
        rw [ra.ints] at hp
        have hj : ns.idxOf z < ns.length := List.idxOf_lt_length_of_mem hm
        have le := List.length_eraseIdx_le ns (ns.idxOf z)
        exact mt_remove pins s σ H x _ v vs Q I rx rv ⟨p, ns, z, ns.idxOf z, ex, rfl, hp, by rw [List.getElem?_eq_getElem hj, List.getElem_idxOf], fun m h => idx_first ns m h, q _ _ _ _ g .non (by rw [List.length_map] at l0 ⊢; omega) (.of_ints _)⟩
    · exact g.elim
  · exact g.elim
def rLenS (w : World) : List V → Hp → VK → Prop := fun vs H Q => ∃ (a : Addr) (S : Int → Bool) (n : Nat), vs = [V.ref a] ∧ H a = some (SetO w a S n) ∧ n < 64 ∧ ∀ ms : List Int, ms.Nodup → (∀ k, k ∈ ms ↔ S k = true) → ms.length = n → Q (.int (n : Nat)) H
theorem cr_lenS : CallR X (.builtin "len") (rLenS X.w) := by
  intro pins s σ H vs us Q I r h
  obtain ⟨a, S, n, rfl, ha, h64, q⟩ := h
  obtain ⟨o, es, ep, t, ho, hx, hd, g, nd, hm, hb, hf, hn, _⟩ := setO_get I ha
  rw [Vals.ref1 r]
  refine call_len_set ho hx hd hf (by omega) ?_
  refine ⟨.int n, H, I.tok _, ⟨s.toks + 1, by rw [hn]⟩, q (es.toList.map keyOf) nd (fun k => (hm k).symm) (by rw [List.length_map, Array.length_toList]; exact hn)⟩
def bLenSet : VN := fun ds k => match ds with
  | [.list xs] => match intsOf xs with
    | some ns => ns.length < 64 ∧ ∀ ms : List Int, ms.Nodup → (∀ z, z ∈ ms ↔ z ∈ ns) → k (.d (.int (ms.length : Nat)))
    | none => False
  | [.tuple xs] => match intsOf xs with
    | some ns => ns.length < 64 ∧ ∀ ms : List Int, ms.Nodup → (∀ z, z ∈ ms ↔ z ∈ ns) → k (.d (.int (ms.length : Nat)))
    | none => False
  | _ => False
theorem lenSet_ok {L : Lv} {fr : FA} {n : Nat} {σ : St} {H : Hp} {Q : VK} (h : liftE X L (fBlt bLenSet fr) σ H Q) : tCB (rLenS X.w) (tCons (tCB (rSetOfI X.K X.w) (liftA X L n fr)) tNil) σ H Q := by
  obtain ⟨Z, Y, s, Xf, Qf, r, k, xo, h, q⟩ := h
  refine ⟨Z, Y, s, Xf, _, r, k, xo, h, fun vs H1 Z1 rs s1 hz rx hn h1 => ?_⟩
  obtain ⟨ds, rr, h2⟩ := lookAll_ok rx.l2 (fun j q d e1 e2 => rx.look e1 e2) h1
  have zh := rx.rel0.zh
  unfold bLenSet at h2
  split at h2
  · split at h2
    · rename_i ns eb
      obtain ⟨v, rfl, r1⟩ := rr.one
      obtain ⟨p, vs, rfl, g1, hl, g3⟩ := r1.list zh
      rw [intsOf_eq eb] at g3
      rw [g3.ints] at g1
      obtain ⟨h64, hk⟩ := h2
      refine ⟨p, ns, rfl, .inl g1, by omega, fun a c ha hcl => ⟨a, _, c, rfl, upd_same, by omega, fun ms nd hm hml => ?_⟩⟩
      have sm : Same H1 (upd H1 a (SetO X.w a (fun j => decide (j ∈ ns)) c)) := same_upd ha
      refine q _ _ Z1 (.d (.int (c : Nat))) s1 (hz.trans (Same.refl _)) (rx.rel0.new ⟨sm, Same.refl _, zh.trans sm, fun _ _ => rfl, .int _⟩) ?_
      have := hk ms nd fun z => (hm z).trans decide_eq_true_iff
      rw [hml] at this
      exact this
    · exact h2.elim
  · split at h2
    · rename_i ns eb
      obtain ⟨v, rfl, r1⟩ := rr.one
      obtain ⟨p, vs, rfl, g1, hl, g3⟩ := r1.tuple zh
      rw [intsOf_eq eb] at g3
      rw [g3.ints] at g1
      obtain ⟨h64, hk⟩ := h2
      refine ⟨p, ns, rfl, .inr g1, by omega, fun a c ha hcl => ⟨a, _, c, rfl, upd_same, by omega, fun ms nd hm hml => ?_⟩⟩
      have sm : Same H1 (upd H1 a (SetO X.w a (fun j => decide (j ∈ ns)) c)) := same_upd ha
      refine q _ _ Z1 (.d (.int (c : Nat))) s1 (hz.trans (Same.refl _)) (rx.rel0.new ⟨sm, Same.refl _, zh.trans sm, fun _ _ => rfl, .int _⟩) ?_
      have := hk ms nd fun z => (hm z).trans decide_eq_true_iff
      rw [hml] at this
      exact this
    · exact h2.elim
  · exact h2.elim
end
section
variable {X : Cx} {L : Lv} {e : Expr} {fr : FA} {p p2 pos pos2 : Pos} {x y : Str}
theorem pf_lenSet (hc : X.calm = true) (hm : X.mg "len" = none) (hm2 : X.mg "set" = none) (ha : PFA X L [e] fr) (hg : Gl X "len" := by rfl) (hg2 : Gl X "set" := by rfl)
    (hs : starEach [.Call (.Name "set" p2) [e] [] pos2] X.env = [(false, eval (.Call (.Name "set" p2) [e] [] pos2) X.env)] := by rfl)
    (hs2 : starEach [e] X.env = [(false, eval e X.env)] := by rfl) : PF X L (.Call (.Name "len" p) [.Call (.Name "set" p2) [e] [] pos2] [] pos) (fBlt bLenSet fr) :=
  PE_imp (pe_callB cr_lenS hg hm bb_len (pa_cons (pe_callTy (cr_setOfI hc) hg2 hm2 boot_set ha (by decide) (by decide) hs2 rfl) pa_nil hs) (by decide) (by decide) hs rfl) fun _ _ _ => lenSet_ok
end
theorem intsOf_mapZ : ∀ bs : List Int, intsOf (bs.map PyData.int) = some bs
  | [] => rfl
  | b :: bs => by show (intsOf (bs.map PyData.int)).map (b :: ·) = _; rw [intsOf_mapZ bs]; rfl
theorem st_lenSet {ns : List Int} {k : R → Prop} (hl : ns.length < 64) (h : ∀ ms : List Int, ms.Nodup → (∀ z, z ∈ ms ↔ z ∈ ns) → k (.d (.int (ms.length : Nat)))) : bLenSet [.list (ns.map .int)] k := by
  unfold bLenSet
  dsimp only
  rw [intsOf_mapZ]
  exact ⟨hl, h⟩
theorem st_remove {ns : List Int} {z : Int} {kk : D → List D → Prop} (hm : z ∈ ns) (h : kk .none ((ns.eraseIdx (ns.idxOf z)).map .int)) : mRemove (ns.map .int) [.int z] kk := by
  unfold mRemove
  dsimp only
  rw [intsOf_mapZ]
  exact ⟨hm, h⟩
end Hs
namespace Hs
open PySem
class Get (s : S) (i : Nat) (v : outParam SV) : Prop where e : s.getD i .no = v
class Put (s : S) (i : Nat) (v : SV) (s' : outParam S) : Prop where e : s.set i v = s'
class Pad (s : S) (n : Nat) (s' : outParam S) : Prop where e : s ++ List.replicate n .no = s'
instance getZ {v : SV} {s : S} : Get (v :: s) 0 v := ⟨rfl⟩
instance getS {v w : SV} {s : S} {i : Nat} [h : Get s i v] : Get (w :: s) (i + 1) v := ⟨h.e⟩
instance putZ {v w : SV} {s : S} : Put (w :: s) 0 v (v :: s) := ⟨rfl⟩
instance putS {v w : SV} {s s' : S} {i : Nat} [h : Put s i v s'] : Put (w :: s) (i + 1) v (w :: s') := ⟨by rw [List.set_cons_succ, h.e]⟩
instance padZ : Pad [] 0 [] := ⟨rfl⟩
instance padS {s : S} {n : Nat} [h : Pad [] n s] : Pad [] (n + 1) (.no :: s) := ⟨by rw [← h.e]; rfl⟩
instance padC {v : SV} {s s' : S} {n : Nat} [h : Pad s n s'] : Pad (v :: s) n (v :: s') := ⟨by rw [← h.e]; rfl⟩
section
variable {s' s'' : S}
variable {nx bk ct : S → Prop} {rt : R → S → Prop} {X xx : XF} {s : S} {a b c e : FE} {t u : FT} {f1 f2 : FS} {Q : R → S → Prop} {i j : Nat} {x y : D} {v : SV} {g g' : V2} {r : R} {rs : List R} {A B : Prop}
theorem st_seq (h : f1 ⟨fun s1 => f2 ⟨nx, rt, bk, ct, xx⟩ s1, rt, bk, ct, xx⟩ s) : fSeq f1 f2 ⟨nx, rt, bk, ct, xx⟩ s := h
/-- the ways through the first part meet -/
theorem st_join (P : S → Prop) (hrest : ∀ s', P s' → f2 ⟨nx, rt, bk, ct, xx⟩ s') (h : ∀ k : S → Prop, (∀ s', P s' → k s') → f1 ⟨k, rt, bk, ct, xx⟩ s) : fSeq f1 f2 ⟨nx, rt, bk, ct, xx⟩ s := h _ hrest
theorem st_asg (h : a xx s fun r s1 => putR i r s1 nx) : fAsg i a ⟨nx, rt, bk, ct, xx⟩ s := h
theorem st_next (h : nx s) : fNext ⟨nx, rt, bk, ct, xx⟩ s := h
theorem st_if (h : t xx s fun c s1 => if c = true then f1 ⟨nx, rt, bk, ct, xx⟩ s1 else f2 ⟨nx, rt, bk, ct, xx⟩ s1) : fIfS t f1 f2 ⟨nx, rt, bk, ct, xx⟩ s := h
theorem st_ret (h : a xx s rt) : fRet a ⟨nx, rt, bk, ct, xx⟩ s := h
theorem st_retN (h : rt (.d .none) s) : fRetN ⟨nx, rt, bk, ct, xx⟩ s := h
theorem st_break (h : bk s) : fBreak ⟨nx, rt, bk, ct, xx⟩ s := h
theorem st_drop (h : a xx s fun _ s1 => nx s1) : fDrop a ⟨nx, rt, bk, ct, xx⟩ s := h
theorem st_raise {n : Str} (h : xx n s) : fRaise n ⟨nx, rt, bk, ct, xx⟩ s := h
theorem st_put_d {k : S → Prop} [p : Put s i (.d x) s'] (h : k s') : putR i (.d x) s k := by rw [← p.e] at h; exact h
theorem st_put_own {k : S → Prop} [p : Put s i v s'] (h : k s') : putR i (.own v) s k := by rw [← p.e] at h; exact h
theorem st_put_top {k : S → Prop} (e : asD (s.getD j .no) = some x) (h : k ((s.set j (.d x)).set i (.d x))) : putR i (.top j) s k := by unfold putR; dsimp only; rw [e]; exact h
theorem st_put_top_l {k : S → Prop} {xs : List D} [g : Get s j (.l xs)] [p : Put s j (.d (.list xs)) s'] [p2 : Put s' i (.d (.list xs)) s''] (h : k s'') : putR i (.top j) s k :=
  st_put_top (x := .list xs) (by rw [g.e]; rfl) (by rw [p.e, p2.e]; exact h)
theorem st_put_top_ll {k : S → Prop} {xs : List (List D)} [g : Get s j (.ll xs)] [p : Put s j (.d (.list (xs.map .list))) s'] [p2 : Put s' i (.d (.list (xs.map .list))) s''] (h : k s'') : putR i (.top j) s k :=
  st_put_top (x := .list (xs.map .list)) (by rw [g.e]; rfl) (by rw [p.e, p2.e]; exact h)
theorem st_put_top_dc {k : S → Prop} {xs : List (D × D)} [g : Get s j (.dc xs)] [p : Put s j (.d (.dict xs)) s'] [p2 : Put s' i (.d (.dict xs)) s''] (h : k s'') : putR i (.top j) s k :=
  st_put_top (x := .dict xs) (by rw [g.e]; rfl) (by rw [p.e, p2.e]; exact h)
theorem st_unp {fg : FG} (h : a xx s fun r s1 => frz r s1 fun d s2 => fg d s2 nx) : fUnp fg a ⟨nx, rt, bk, ct, xx⟩ s := h
theorem st_par {fa : FA} (h : fa xx s fun rs s2 => match rs with | [r1, r2] => frz r1 s2 fun d1 s3 => frz r2 s3 fun d2 s4 => putR i (.d d1) s4 fun s5 => putR j (.d d2) s5 nx | _ => False) : fPar i j fa ⟨nx, rt, bk, ct, xx⟩ s := h
theorem st_setIx (h : a xx s fun r s1 => onL i s1 fun _ => b xx s1 fun rj s2 => match rj with
  | .d (.int k) => frz r s2 fun d s3 => onL i s3 fun xs => 0 ≤ k ∧ k.toNat < xs.length ∧ putR i (.own (.l (xs.set k.toNat d))) s3 nx
  | _ => False) : fSetIx i b a ⟨nx, rt, bk, ct, xx⟩ s := h
theorem st_onL {k : List D → Prop} {xs : List D} [e : Get s i (.l xs)] (h : k xs) : onL i s k := by unfold onL; rw [e.e]; exact h
/-- slots forgotten -/
def wipeK (s : S) (wp : List Nat) (k : S → Prop) : Prop := k (wipeS s wp)
theorem st_wipe_nil {k : S → Prop} (h : k s) : wipeK s [] k := h
theorem st_wipe_cons {k : S → Prop} {is : List Nat} [p : Put s i .no s'] (h : wipeK s' is k) : wipeK s (i :: is) k := by rw [← p.e] at h; exact h
theorem st_for {it : FI} {fg : FG} {wp : List Nat} (h : it xx s fun xs s1 => wipeK s1 wp fun s2 => fLoop fg wp f1 ⟨nx, rt, bk, ct, xx⟩ xs s2) : fFor it fg wp f1 ⟨nx, rt, bk, ct, xx⟩ s := h
theorem st_var_d [e : Get s i (.d x)] (h : Q (.d x) s) : fVar i X s Q := by unfold fVar; rw [e.e]; exact h
theorem st_var_l {xs : List D} [e : Get s i (.l xs)] (h : Q (.top i) s) : fVar i X s Q := by unfold fVar; rw [e.e]; exact h
theorem st_var_ll {xs : List (List D)} [e : Get s i (.ll xs)] (h : Q (.top i) s) : fVar i X s Q := by unfold fVar; rw [e.e]; exact h
theorem st_var_dc {xs : List (D × D)} [e : Get s i (.dc xs)] (h : Q (.top i) s) : fVar i X s Q := by unfold fVar; rw [e.e]; exact h
theorem st_C (h : Q (.d x) s) : fC x X s Q := h
theorem st_nil {k : List R → S → Prop} (h : k [] s) : fNil X s k := h
theorem st_cons {k : List R → S → Prop} {fr : FA} (h : a X s fun x s1 => fr X s1 fun xs s2 => k (x :: xs) s2) : fCons a fr X s k := h
theorem st_tup {fr : FA} (h : fr X s fun rs s1 => frzAll rs s1 fun ds s2 => Q (.d (.tuple ds)) s2) : fTup fr X s Q := h
theorem st_lst {fr : FA} (h : fr X s fun rs s1 => frzAll rs s1 fun ds s2 => Q (.own (.l ds)) s2) : fLst fr X s Q := h
theorem st_op (h : a X s fun r1 s1 => b X s1 fun r2 s2 => look s2 r1 fun d => look s2 r2 fun e => g d e fun r => Q r s2) : fOp g a b X s Q := h
theorem st_un {g1 : V1} (h : a X s fun r1 s1 => look s1 r1 fun d => g1 d fun r => Q r s1) : fUn g1 a X s Q := h
theorem st_blt {gn : VN} {fr : FA} (h : fr X s fun rs s1 => fBlt.lookAll s1 rs fun ds => gn ds fun r => Q r s1) : fBlt gn fr X s Q := h
theorem st_lookAll_nil {k : List D → Prop} (h : k []) : fBlt.lookAll s [] k := h
theorem st_lookAll_cons {k : List D → Prop} (h : look s r fun d => fBlt.lookAll s rs fun ds => k (d :: ds)) : fBlt.lookAll s (r :: rs) k := h
theorem st_andV (h : a X s fun r s1 => isB r fun c => if c = true then b X s1 Q else Q (.d (.bool false)) s1) : fAndV a b X s Q := h
theorem st_orV (h : a X s fun r s1 => isB r fun c => if c = true then Q (.d (.bool true)) s1 else b X s1 Q) : fOrV a b X s Q := h
theorem st_notV (h : a X s fun r s1 => isB r fun c => Q (.d (.bool (!c))) s1) : fNotV a X s Q := h
theorem st_ifE (h : t X s fun c s1 => if c = true then a X s1 Q else b X s1 Q) : fIfE t a b X s Q := h
theorem st_chain (h : a X s fun r1 s1 => b X s1 fun r2 s2 => look s2 r1 fun d => look s2 r2 fun e => g d e fun r => isB r fun k =>
  if k = true then c X s2 fun r3 s3 => look s3 r2 fun e' => look s3 r3 fun h => g' e' h fun z => Q z s3 else Q (.d (.bool false)) s2) : fChain g g' a b c X s Q := h
theorem st_sl {gs : D → Option Int → Option Int → (R → Prop) → Prop} {lo hi : FO} (h : a X s fun r s1 => lo X s1 fun l s2 => hi X s2 fun h s3 => look s3 r fun d => gs d l h fun z => Q z s3) : fSl gs a lo hi X s Q := h
theorem st_noPart {k : Option Int → S → Prop} (h : k none s) : fNoPart X s k := h
theorem st_part {k : Option Int → S → Prop} (h : a X s fun r s1 => match r with | .d (.int i) => k (some i) s1 | _ => False) : fPart a X s k := h
/-- what was lent comes back -/
def putK (ms : List Bool) (rs : List R) (fin s : S) (k : S → Prop) : Prop := k (putB ms rs fin s)
theorem st_putK_nil {fin : S} {k : S → Prop} (h : k s) : putK [] [] fin s k := by
  unfold putK putB; exact h
theorem st_putK_t {ms : List Bool} {fin : S} {f : SV} {k : S → Prop} [p : Put s i f s'] (h : putK ms rs fin s' k) : putK (true :: ms) (.top i :: rs) (f :: fin) s k := by
  rw [← p.e] at h; exact h
theorem st_putK_td {ms : List Bool} {fin : S} {f : SV} {k : S → Prop} (h : putK ms rs fin s k) : putK (true :: ms) (.d x :: rs) (f :: fin) s k := h
theorem st_putK_to {ms : List Bool} {fin : S} {f : SV} {k : S → Prop} (h : putK ms rs fin s k) : putK (true :: ms) (.own v :: rs) (f :: fin) s k := h
theorem st_putK_f {ms : List Bool} {fin : S} {f : SV} {k : S → Prop} (h : putK ms rs fin s k) : putK (false :: ms) (r :: rs) (f :: fin) s k := h
theorem st_call {sem : FSem} {ms : List Bool} {fr : FA} (h : fr X s fun rs s1 => bindA ms rs s1 fun svs s2 => sem svs (fun n fin => X n (putB ms rs fin s2)) fun r fin => putK ms rs fin s2 fun s3 => Q r s3) : fCall sem ms fr X s Q := h
theorem putB_none : ∀ {ms : List Bool} {rs : List R} {fin s : S}, ms.all (!·) = true → putB ms rs fin s = s
  | [], _, _, _, _ => by unfold putB; rfl
  | true :: _, _, _, _, h => by simp at h
  | false :: ms, [], _, _, _ => by unfold putB; rfl
  | false :: ms, _ :: _, [], _, _ => by unfold putB; rfl
  | false :: ms, _ :: rs, _ :: fin, s, h => by
    unfold putB
    exact putB_none (by simpa using h)
theorem st_callF {sem : FSem} {ms : List Bool} {fr : FA} (e : ms.all (!·) = true) (h : fr X s fun rs s1 => bindA ms rs s1 fun svs s2 => sem svs (fun n _ => X n s2) fun r _ => Q r s2) : fCall sem ms fr X s Q := by
  have q : ∀ (rs : List R) (s2 : S), (fun n fin => X n (putB ms rs fin s2)) = fun (n : Str) (fin : S) => X n s2 := fun rs s2 => by
    funext n fin; rw [putB_none e]
  have q2 : ∀ (rs : List R) (s2 : S), (fun r fin => Q r (putB ms rs fin s2)) = fun (r : R) (fin : S) => Q r s2 := fun rs s2 => by
    funext n fin; rw [putB_none e]
  unfold fCall
  simp only [q, q2]
  exact h
theorem st_lc {it : FI} {fg : FG} {wp : List Nat} (h : it X s fun xs s1 => xs.length ≤ sizeLine ∧ wipeK s1 wp fun s2 => fComp (fun _ _ => False) fg wp t e Q xs [] s2) : fLc it fg wp t e X s Q := h
theorem st_lm {lm : LM} {fr : FA} (h : onL i s fun _ => fr X s fun rs s1 => frzAll rs s1 fun ds s2 => onL i s2 fun xs => lm xs ds fun d xs' => putR i (.own (.l xs')) s2 fun s3 => Q (.d d) s3) : fLm i lm fr X s Q := h
variable {q : Bool → S → Prop}
theorem st_B (h : a X s fun r s1 => isB r fun c => q c s1) : fB a X s q := h
theorem st_and (h : t X s fun c s1 => if c = true then u X s1 q else q false s1) : fAnd t u X s q := h
theorem st_or (h : t X s fun c s1 => if c = true then q true s1 else u X s1 q) : fOr t u X s q := h
theorem st_not (h : t X s fun c s1 => q (!c) s1) : fNot t X s q := h
theorem st_yes (h : q true s) : fYes X s q := h
theorem st_isB {k : Bool → Prop} {z : Bool} (h : k z) : isB (.d (.bool z)) k := h
theorem st_t (h : A) : if true = true then A else B := by simpa using h
theorem st_f (h : B) : if false = true then A else B := by simpa using h
theorem st_nt (h : B) : if (!true) = true then A else B := by simpa using h
theorem st_nf (h : A) : if (!false) = true then A else B := by simpa using h
theorem st_ite {z : Bool} (h1 : z = true → A) (h2 : z = false → B) : if z = true then A else B := by
  cases z
  · simpa using h2 rfl
  · simpa using h1 rfl
theorem st_iteT {z : Bool} (e : z = true) (h : A) : if z = true then A else B := by rw [if_pos e]; exact h
theorem st_iteF {z : Bool} (e : z = false) (h : B) : if z = true then A else B := by rw [if_neg (by simp [e])]; exact h
theorem st_look_d {k : D → Prop} (h : k x) : look s (.d x) k := h
theorem st_look_own {k : D → Prop} {xs : List D} (h : k (.list xs)) : look s (.own (.l xs)) k := h
theorem st_look_own_dc {k : D → Prop} {xs : List (D × D)} (h : k (.dict xs)) : look s (.own (.dc xs)) k := h
theorem st_look_top {k : D → Prop} {xs : List D} [e : Get s i (.l xs)] (h : k (.list xs)) : look s (.top i) k := by
  unfold look
  rw [show viewR s (.top i) = some (.list xs) by show viewS (s.getD i .no) = _; rw [e.e]; rfl]; exact h
theorem st_look_top_d {k : D → Prop} [e : Get s i (.d x)] (h : k x) : look s (.top i) k := by
  unfold look viewR
  dsimp only
  rw [e.e]
  exact h
theorem st_look_top_dc {k : D → Prop} {xs : List (D × D)} [e : Get s i (.dc xs)] (h : k (.dict xs)) : look s (.top i) k := by
  unfold look
  rw [show viewR s (.top i) = some (.dict xs) by show viewS (s.getD i .no) = _; rw [e.e]; rfl]; exact h
theorem st_frz_d {k : D → S → Prop} (h : k x s) : frz (.d x) s k := h
theorem st_frz_own {k : D → S → Prop} {xs : List D} (h : k (.list xs) s) : frz (.own (.l xs)) s k := h
theorem st_frz_own_ll {k : D → S → Prop} {xs : List (List D)} (h : k (.list (xs.map .list)) s) : frz (.own (.ll xs)) s k := h
theorem st_frz_own_dc {k : D → S → Prop} {xs : List (D × D)} (h : k (.dict xs) s) : frz (.own (.dc xs)) s k := h
theorem frz_top' {k : D → S → Prop} (e : asD (s.getD i .no) = some x) (h : k x (s.set i (.d x))) : frz (.top i) s k := by unfold frz; dsimp only; rw [e]; exact h
theorem st_frz_top {k : D → S → Prop} {xs : List D} [e : Get s i (.l xs)] [p : Put s i (.d (.list xs)) s'] (h : k (.list xs) s') : frz (.top i) s k := frz_top' (x := .list xs) (by rw [e.e]; rfl) (by rw [p.e]; exact h)
theorem st_frz_top_ll {k : D → S → Prop} {xs : List (List D)} [e : Get s i (.ll xs)] [p : Put s i (.d (.list (xs.map .list))) s'] (h : k (.list (xs.map .list)) s') : frz (.top i) s k := frz_top' (x := .list (xs.map .list)) (by rw [e.e]; rfl) (by rw [p.e]; exact h)
theorem st_frz_top_dc {k : D → S → Prop} {xs : List (D × D)} [e : Get s i (.dc xs)] [p : Put s i (.d (.dict xs)) s'] (h : k (.dict xs) s') : frz (.top i) s k := frz_top' (x := .dict xs) (by rw [e.e]; rfl) (by rw [p.e]; exact h)
theorem st_frzAll_nil {k : List D → S → Prop} (h : k [] s) : frzAll [] s k := h
theorem st_frzAll_cons {k : List D → S → Prop} (h : frz r s fun x s1 => frzAll rs s1 fun xs s2 => k (x :: xs) s2) : frzAll (r :: rs) s k := h
variable {ms : List Bool} {kb : List SV → S → Prop}
theorem st_bind_nil (h : kb [] s) : bindA [] [] s kb := h
theorem st_bind_f (h : frz r s fun x s1 => bindA ms rs s1 fun svs s2 => kb (.d x :: svs) s2) : bindA (false :: ms) (r :: rs) s kb := h
theorem st_bind_tt [g : Get s i v] [p : Put s i .no s'] (h : bindA ms rs s' fun svs s2 => kb (v :: svs) s2) : bindA (true :: ms) (.top i :: rs) s kb := by
  rw [← p.e, ← g.e] at h; exact h
theorem st_bind_td (h : bindA ms rs s fun svs s2 => kb (.d x :: svs) s2) : bindA (true :: ms) (.d x :: rs) s kb := h
theorem st_bind_to (h : bindA ms rs s fun svs s2 => kb (v :: svs) s2) : bindA (true :: ms) (.own v :: rs) s kb := h
theorem st_out_d {k : R → S → Prop} (h : k (.d x) s) : outR (.d x) s k := h
theorem st_out_own {k : R → S → Prop} (h : k (.own v) s) : outR (.own v) s k := h
theorem st_out_top {k : R → S → Prop} [g : Get s i v] [p : Put s i .no s'] (h : k (.own v) s') : outR (.top i) s k := by
  rw [← p.e, ← g.e] at h; exact h
variable {kl : List D → S → Prop} {fr : FA} {ds : List D} {n m : Int}
theorem st_seqI (h : a X s fun r s1 => frz r s1 fun d s2 => match d with | .list xs => kl xs s2 | .tuple xs => kl xs s2 | _ => False) : iSeq a X s kl := h
theorem st_range1 (h : fr X s fun rs s1 => match rs with | [.d (.int j)] => lim62 j ∧ kl (rangeD 0 j.toNat) s1 | _ => False) : iRange1 fr X s kl := h
theorem st_range2 (h : fr X s fun rs s2 => match rs with | [.d (.int i), .d (.int j)] => lim62 i ∧ lim62 j ∧ kl (rangeD i (j - i).toNat) s2 | _ => False) : iRange2 fr X s kl := h
theorem st_enum (h : fr X s fun rs s1 => frzAll rs s1 fun ds s2 => match ds with
  | [.list xs] => kl (enumD xs) s2
  | [.tuple xs] => kl (enumD xs) s2
  | _ => False) : iEnum fr X s kl := h
theorem st_zip (h : fr X s fun rs s1 => frzAll rs s1 fun ds s4 => match ds with
  | [.list xs, .list ys] => kl (zipD xs ys) s4
  | [.tuple xs, .list ys] => kl (zipD xs ys) s4
  | [.list xs, .tuple ys] => kl (zipD xs ys) s4
  | [.tuple xs, .tuple ys] => kl (zipD xs ys) s4
  | _ => False) : iZip fr X s kl := h
theorem st_nm {k : S → Prop} [p : Put s i (.d x) s'] (h : k s') : gNm i x s k := by rw [← p.e] at h; exact h
/-- a def's body begins -/
theorem st_sem {np nl n : Nat} {svs : S} {f : FS} (e : nl = n + np) [p : Pad svs n s] (h : f ⟨fun s => Q (.d .none) (s.take np), fun r s => outR r s fun r' s' => Q r' (s'.take np), fun _ => False, fun _ => False, fun n s => X n (s.take np)⟩ s) : semOf np nl f svs X Q := by
  subst e
  rw [← p.e] at h
  unfold semOf
  rw [Nat.add_sub_cancel]
  exact h
theorem st_tp {k : S → Prop} {fgs : List FG} (h : gTp.gTps fgs ds s k) : gTp fgs (.tuple ds) s k := h
theorem st_tps_nil {k : S → Prop} (h : k s) : gTp.gTps [] [] s k := h
theorem st_tps_cons {k : S → Prop} {fg : FG} {fgs : List FG} (h : fg x s fun s1 => gTp.gTps fgs ds s1 k) : gTp.gTps (fg :: fgs) (x :: ds) s k := h
variable {k : R → Prop} {xs ys : List D}
theorem st_add_i (h : k (.d (.int (n + m)))) : opAdd (.int n) (.int m) k := h
theorem st_add_l (z : xs.length + ys.length ≤ sizeLine) (h : k (.own (.l (xs ++ ys)))) : opAdd (.list xs) (.list ys) k := ⟨z, h⟩
theorem st_add_t (z : xs.length + ys.length ≤ sizeLine) (h : k (.d (.tuple (xs ++ ys)))) : opAdd (.tuple xs) (.tuple ys) k := ⟨z, h⟩
theorem st_sub_i (h : k (.d (.int (n - m)))) : opSub (.int n) (.int m) k := h
theorem st_mul_i (z : okM n m) (h : k (.d (.int (n * m)))) : opMul (.int n) (.int m) k := ⟨z, h⟩
theorem st_fdiv_i (z : okD m) (h : k (.d (.int (n / m)))) : opFdiv (.int n) (.int m) k := ⟨z, h⟩
theorem st_mod_i (z : 0 < m) (h : k (.d (.int (n % m)))) : opMod (.int n) (.int m) k := ⟨z, h⟩
instance {j : Int} : Decidable (okD j) := by unfold okD; infer_instance
instance {i j : Int} : Decidable (okM i j) := by unfold okM; infer_instance
instance {i : Int} : Decidable (lim62 i) := by unfold lim62; infer_instance
theorem lg_le {n k : Nat} (h : n < 2 ^ k) : n.log2 ≤ k := by
  by_cases h0 : n = 0
  · subst h0; simp
  · exact Nat.le_of_lt ((Nat.log2_lt h0).mpr h)
/-- a bound of both factors -/
theorem okM_of (p q : Nat) {i j : Int} (h1 : i.natAbs < 2 ^ p) (h2 : j.natAbs < 2 ^ q) (h : p + q < 1000000 := by decide) : okM i j := by
  have := lg_le h1
  have := lg_le h2
  unfold okM
  omega
theorem okD_of (q : Nat) {j : Int} (h0 : 0 < j) (h2 : j.natAbs < 2 ^ q) (h : q < 9000 := by decide) : okD j := ⟨h0, by have := lg_le h2; omega⟩
theorem st_neg_i (h : k (.d (.int (-n)))) : uNeg (.int n) k := h
theorem st_eq_i (h : k (.d (.bool (decide (n = m))))) : cEq (.int n) (.int m) k := .inr ⟨rfl, rfl, h⟩
theorem st_ne_i (h : k (.d (.bool (!decide (n = m))))) : cNe (.int n) (.int m) k := .inr ⟨rfl, rfl, h⟩
theorem st_eq_b {p q : Bool} (h : k (.d (.bool (p == q)))) : cEq (.bool p) (.bool q) k := .inr ⟨rfl, rfl, by cases p <;> cases q <;> exact h⟩
theorem st_ne_b {p q : Bool} (h : k (.d (.bool (!(p == q))))) : cNe (.bool p) (.bool q) k := .inr ⟨rfl, rfl, by cases p <;> cases q <;> exact h⟩
theorem st_eq (z1 : SeqAt.shaped (unlit x) = true) (z2 : SeqAt.shaped (unlit y) = true) (h : k (.d (.bool (PyData.eqv (unlit x) (unlit y))))) : cEq x y k := .inr ⟨z1, z2, h⟩
theorem st_ne (z1 : SeqAt.shaped (unlit x) = true) (z2 : SeqAt.shaped (unlit y) = true) (h : k (.d (.bool (!PyData.eqv (unlit x) (unlit y))))) : cNe x y k := .inr ⟨z1, z2, h⟩
theorem st_eq_str {p q : Str} (h : k (.d (.bool (decide (p = q))))) : cEq (.str p) (.str q) k := .inl ⟨p, q, rfl, rfl, h⟩
theorem st_ne_str {p q : Str} (h : k (.d (.bool (!decide (p = q))))) : cNe (.str p) (.str q) k := .inl ⟨p, q, rfl, rfl, h⟩
theorem st_lt_i (h : k (.d (.bool (decide (n < m))))) : cLt (.int n) (.int m) k := h
theorem st_le_i (h : k (.d (.bool (decide (n ≤ m))))) : cLe (.int n) (.int m) k := h
theorem st_gt_i (h : k (.d (.bool (decide (m < n))))) : cGt (.int n) (.int m) k := h
theorem st_ge_i (h : k (.d (.bool (decide (m ≤ n))))) : cGe (.int n) (.int m) k := h
theorem st_is_n (h : k (.d (.bool (isNone x)))) : cIs x .none k := by cases x <;> exact h
theorem st_isNot_n (h : k (.d (.bool (!isNone x)))) : cIsNot x .none k := by cases x <;> exact h
theorem st_is_b {p q : Bool} (h : k (.d (.bool (decide (p = q))))) : cIs (.bool p) (.bool q) k := h
theorem st_isNot_b {p q : Bool} (h : k (.d (.bool (!decide (p = q))))) : cIsNot (.bool p) (.bool q) k := h
theorem st_ix_l (e : L2.atI xs n = some x) (h : k (.d x)) : ixD (.list xs) (.int n) k := by
  show (match L2.atI xs n with | some x => k (.d x) | none => False)
  rw [e]; exact h
theorem st_ix_t (e : L2.atI xs n = some x) (h : k (.d x)) : ixD (.tuple xs) (.int n) k := by
  show (match L2.atI xs n with | some x => k (.d x) | none => False)
  rw [e]; exact h
theorem st_ix_lit {ns : List Int} {z : Int} (e : L2.atI ns n = some z) (h : k (.d (.int z))) : ixD (litD ns) (.int n) k := by
  show (match L2.atI (ns.map PyData.int) n with | some x => k (.d x) | none => False)
  rw [show L2.atI (ns.map PyData.int) n = some (.int z) by
    unfold L2.atI at e ⊢
    rw [List.length_map]
    cases q : L2.ixN ns.length n with
    | none => rw [q] at e; cases e
    | some j =>
      rw [q] at e
      show (ns.map PyData.int)[j]? = _
      rw [List.getElem?_map, show ns[j]? = some z from e]; rfl]
  exact h
theorem st_len_l (h : k (.d (.int (xs.length : Nat)))) : bLen [.list xs] k := h
theorem st_len_t (h : k (.d (.int (xs.length : Nat)))) : bLen [.tuple xs] k := h
theorem st_len_lit {ns : List Int} (h : k (.d (.int (ns.length : Nat)))) : bLen [litD ns] k := by
  show k (.d (.int ((ns.map PyData.int).length : Nat)))
  rw [List.length_map]; exact h
theorem st_abs (h : k (.d (.int (n.natAbs : Nat)))) : bAbs [.int n] k := by
  show k (.d (.int (if n < 0 then -n else n)))
  rw [show (if n < 0 then -n else n) = ((n.natAbs : Nat) : Int) by split <;> omega]
  exact h
theorem st_max2 (h : k (.d (.int (max n m)))) : bMax2 [.int n, .int m] k := by
  show k (.d (.int (if m > n then m else n)))
  rw [show (if m > n then m else n) = max n m by split <;> omega]
  exact h
theorem st_min2 (h : k (.d (.int (min n m)))) : bMin2 [.int n, .int m] k := by
  show k (.d (.int (if m < n then m else n)))
  rw [show (if m < n then m else n) = min n m by split <;> omega]
  exact h
theorem st_int_i (h : k (.d (.int n))) : bInt [.int n] k := h
theorem st_int_b {p : Bool} (h : k (.d (.int (if p then 1 else 0)))) : bInt [.bool p] k := h
theorem st_tuple_l (h : k (.d (.tuple xs))) : bTuple [.list xs] k := h
theorem st_tuple_t (h : k (.d (.tuple xs))) : bTuple [.tuple xs] k := h
theorem st_list_l (h : k (.own (.l xs))) : bList [.list xs] k := h
theorem st_list_t (h : k (.own (.l xs))) : bList [.tuple xs] k := h
theorem boolsOf_map' : ∀ bs : List Bool, boolsOf (bs.map PyData.bool) = some bs
  | [] => rfl
  | b :: bs => by show (boolsOf (bs.map PyData.bool)).map (b :: ·) = _; rw [boolsOf_map' bs]; rfl
theorem intsOf_map' : ∀ bs : List Int, intsOf (bs.map PyData.int) = some bs
  | [] => rfl
  | b :: bs => by show (intsOf (bs.map PyData.int)).map (b :: ·) = _; rw [intsOf_map' bs]; rfl
theorem st_all {bs : List Bool} (e : xs = bs.map PyData.bool) (h : k (.d (.bool (bs.all id)))) : bAll [.list xs] k := by
  show (match boolsOf xs with | some bs => k (.d (.bool (bs.all id))) | none => False)
  rw [e, boolsOf_map']; exact h
theorem st_any {bs : List Bool} (e : xs = bs.map PyData.bool) (h : k (.d (.bool (bs.any id)))) : bAny [.list xs] k := by
  show (match boolsOf xs with | some bs => k (.d (.bool (bs.any id))) | none => False)
  rw [e, boolsOf_map']; exact h
theorem st_isT {T : String} (e : isLit x = false) (h : k (.d (.bool (isTy T x)))) : bIs T x k := ⟨e, h⟩
theorem st_iteND {p : Prop} [Decidable p] (e : p) (h : B) : if (!decide p) = true then A else B := by rw [if_neg (by simp [e])]; exact h
theorem st_iteNF {p : Prop} [Decidable p] (e : ¬ p) (h : A) : if (!decide p) = true then A else B := by rw [if_pos (by simp [e])]; exact h
theorem st_iteLen {xs : List D} {m : Int} (e : ((xs.length : Nat) : Int) = m) (h : A) : if decide (((xs.length : Nat) : Int) = m) = true then A else B := by rw [if_pos (by simp [e])]; exact h
theorem st_iteNLen {xs : List D} {m : Int} (e : ((xs.length : Nat) : Int) = m) (h : B) : if (!decide (((xs.length : Nat) : Int) = m)) = true then A else B := by rw [if_neg (by simp [e])]; exact h
theorem st_iteBB {z : Bool} (h : B) : if (!(z == z)) = true then A else B := by rw [if_neg (by simp)]; exact h
theorem st_isTT {T : String} (e : isTy T x = true) (h : A) : if isTy T x = true then A else B := by rw [if_pos e]; exact h
theorem st_isTF {T : String} (e : isTy T x = false) (h : B) : if isTy T x = true then A else B := by rw [if_neg (by simp [e])]; exact h
theorem st_isNT {T : String} (e : isTy T x = true) (h : B) : if (!isTy T x) = true then A else B := by rw [if_neg (by simp [e])]; exact h
theorem st_isNF {T : String} (e : isTy T x = false) (h : A) : if (!isTy T x) = true then A else B := by rw [if_pos (by simp [e])]; exact h
theorem st_append {kk : D → List D → Prop} (z : xs.length < sizeLine) (h : kk .none (xs ++ [x])) : mAppend xs [x] kk := ⟨z, h⟩
theorem st_extend {kk : D → List D → Prop} (z : xs.length + ys.length ≤ sizeLine) (h : kk .none (xs ++ ys)) : mExtend xs [.list ys] kk := ⟨z, h⟩
theorem st_sl_l {lo hi : Option Int} (h : k (.own (.l (slD.cutL xs lo hi)))) : slD (.list xs) lo hi k := h
theorem st_sl_t {lo hi : Option Int} (h : k (.d (.tuple (slD.cutL xs lo hi)))) : slD (.tuple xs) lo hi k := h
theorem loop_for {fg : FG} {wp : List Nat} (I : List D → S → Prop) (hend : ∀ s, I [] s → nx s)
    (hstep : ∀ x xs s (k : S → Prop), I (x :: xs) s → (∀ s', I xs s' → k s') → fg x s fun s1 => f1 ⟨fun s2 => k (wipeS s2 wp), rt, fun s2 => wipeK s2 wp nx, fun s2 => k (wipeS s2 wp), xx⟩ s1) :
    ∀ xs s, I xs s → fLoop fg wp f1 ⟨nx, rt, bk, ct, xx⟩ xs s
  | [], s, h => hend s h
  | x :: xs, s, h => hstep x xs s (fLoop fg wp f1 ⟨nx, rt, bk, ct, xx⟩ xs) h fun s' h' => loop_for I hend hstep xs s' h'
theorem rangeD_cons {lo : Int} {n : Nat} : rangeD lo (n + 1) = .int lo :: rangeD (lo + 1) n := by
  unfold rangeD
  rw [List.range_succ_eq_map, List.map_cons, List.map_map]
  simp only [Int.natCast_zero, Int.add_zero, List.cons.injEq, true_and]
  apply List.map_congr_left
  intro k _
  simp only [Function.comp]
  congr 1
  omega
theorem loop_range {fg : FG} {wp : List Nat} (I : Int → S → Prop) {lo hi : Int} (hend : ∀ s, I (max lo hi) s → nx s)
    (hstep : ∀ i s (k : S → Prop), lo ≤ i → i < hi → I i s → (∀ s', I (i + 1) s' → k s') → fg (.int i) s fun s1 => f1 ⟨fun s2 => k (wipeS s2 wp), rt, fun s2 => wipeK s2 wp nx, fun s2 => k (wipeS s2 wp), xx⟩ s1)
    (h0 : I lo s) : fLoop fg wp f1 ⟨nx, rt, bk, ct, xx⟩ (rangeD lo (hi - lo).toNat) s := by
  have go : ∀ (n : Nat) (i : Int) (s : S), lo ≤ i → (hi - i).toNat = n → (i ≤ hi ∨ i = lo) → I i s → fLoop fg wp f1 ⟨nx, rt, bk, ct, xx⟩ (rangeD i n) s := by
    intro n
    induction n with
    | zero =>
      intro i s h1 h2 h3 h4
      refine hend s ?_
      rw [show max lo hi = i by omega]
      exact h4
    | succ n ih =>
      intro i s h1 h2 h3 h4
      rw [rangeD_cons]
      exact hstep i s (fLoop fg wp f1 ⟨nx, rt, bk, ct, xx⟩ (rangeD (i + 1) n)) h1 (by omega) h4 fun s' h' => ih (i + 1) s' (by omega) (by omega) (.inl (by omega)) h'
  exact go _ lo s (Int.le_refl _) rfl (.inr rfl) h0
theorem loop_range1 {fg : FG} {wp : List Nat} (I : Int → S → Prop) {hi : Int} (hend : ∀ s, I (max 0 hi) s → nx s)
    (hstep : ∀ i s (k : S → Prop), 0 ≤ i → i < hi → I i s → (∀ s', I (i + 1) s' → k s') → fg (.int i) s fun s1 => f1 ⟨fun s2 => k (wipeS s2 wp), rt, fun s2 => wipeK s2 wp nx, fun s2 => k (wipeS s2 wp), xx⟩ s1)
    (h0 : I 0 s) : fLoop fg wp f1 ⟨nx, rt, bk, ct, xx⟩ (rangeD 0 hi.toNat) s := by
  have q := loop_range (lo := 0) (hi := hi) (bk := bk) (ct := ct) I hend hstep h0
  rw [Int.sub_zero] at q
  exact q
theorem loop_while {wp : List Nat} (I : Nat → S → Prop) (hstep : ∀ n s (k : S → Prop), I n s → (∀ m s', m < n → I m s' → k s') → t xx s fun c s1 => if c = true then f1 ⟨fun s2 => k (wipeS s2 wp), rt, fun s2 => wipeK s2 wp nx, fun s2 => k (wipeS s2 wp), xx⟩ s1 else nx s1)
    (n : Nat) (h0 : I n (wipeS s wp)) : fWhile wp t f1 ⟨nx, rt, bk, ct, xx⟩ s := by
  refine ⟨n + 1, ?_⟩
  generalize wipeS s wp = s0 at h0
  have go : ∀ N m s', m < N → I m s' → fWhileN wp t f1 ⟨nx, rt, bk, ct, xx⟩ N s' := by
    intro N
    induction N with
    | zero => intro m s' h; omega
    | succ N ih => exact fun m s' hm hI => hstep m s' (fWhileN wp t f1 ⟨nx, rt, bk, ct, xx⟩ N) hI fun m' s'' hm' hI' => ih m' s'' (by omega) hI'
  exact go (n + 1) n s0 (by omega) h0
/-- without a test -/
theorem comp_all {fg : FG} {wp : List Nat} (f : D → D)
    : ∀ (xs acc : List D), (∀ x, x ∈ xs → ∀ (kT : D → S → Prop), kT (f x) s → fg x s fun s1 => e X s1 fun r s3 => frz r s3 fun d s4 => kT d (wipeS s4 wp)) →
      Q (.own (.l (acc ++ xs.map f))) s → fComp X fg wp fYes e Q xs acc s
  | [], acc, _, h => by
    have h : Q (.own (.l (acc ++ []))) s := h
    rw [List.append_nil] at h
    exact h
  | x :: xs, acc, hs, h => by
    exact hs x List.mem_cons_self (fun d s4 => fComp X fg wp fYes e Q xs (acc ++ [d]) s4) (comp_all f xs _ (fun x hx => hs x (List.mem_cons_of_mem _ hx)) (by simpa using h))
end
end Hs
namespace Hs
open PySem
section
variable {s' s'' : S}
variable {nx bk ct : S → Prop} {rt : R → S → Prop} {X xx : XF} {s : S} {a b c e : FE} {t u : FT} {f1 f2 : FS} {Q : R → S → Prop} {i j : Nat} {x y : D} {v : SV} {g g' : V2} {r : R} {rs : List R} {A B : Prop}
class StepTo (P : Prop) (P' : outParam Prop) : Prop where go : P' → P
theorem stepTo {P P' : Prop} [i : StepTo P P'] (h : P') : P := i.go h
instance go_st_seq : StepTo (fSeq f1 f2 ⟨nx, rt, bk, ct, xx⟩ s) (f1 ⟨fun s1 => f2 ⟨nx, rt, bk, ct, xx⟩ s1, rt, bk, ct, xx⟩ s) := ⟨fun h => st_seq h⟩
instance go_st_asg : StepTo (fAsg i a ⟨nx, rt, bk, ct, xx⟩ s) (a xx s fun r s1 => putR i r s1 nx) := ⟨fun h => st_asg h⟩
instance go_st_next : StepTo (fNext ⟨nx, rt, bk, ct, xx⟩ s) (nx s) := ⟨fun h => st_next h⟩
instance go_st_if : StepTo (fIfS t f1 f2 ⟨nx, rt, bk, ct, xx⟩ s) (t xx s fun c s1 => if c = true then f1 ⟨nx, rt, bk, ct, xx⟩ s1 else f2 ⟨nx, rt, bk, ct, xx⟩ s1) := ⟨fun h => st_if h⟩
instance go_st_ret : StepTo (fRet a ⟨nx, rt, bk, ct, xx⟩ s) (a xx s rt) := ⟨fun h => st_ret h⟩
instance go_st_retN : StepTo (fRetN ⟨nx, rt, bk, ct, xx⟩ s) (rt (.d .none) s) := ⟨fun h => st_retN h⟩
instance go_st_break : StepTo (fBreak ⟨nx, rt, bk, ct, xx⟩ s) (bk s) := ⟨fun h => st_break h⟩
instance go_st_drop : StepTo (fDrop a ⟨nx, rt, bk, ct, xx⟩ s) (a xx s fun _ s1 => nx s1) := ⟨fun h => st_drop h⟩
instance go_st_raise {n : Str} : StepTo (fRaise n ⟨nx, rt, bk, ct, xx⟩ s) (xx n s) := ⟨fun h => st_raise h⟩
instance go_st_put_d {k : S → Prop} [p : Put s i (.d x) s'] : StepTo (putR i (.d x) s k) (k s') := ⟨fun h => st_put_d h⟩
instance go_st_put_own {k : S → Prop} [p : Put s i v s'] : StepTo (putR i (.own v) s k) (k s') := ⟨fun h => st_put_own h⟩
instance go_st_put_top_l {k : S → Prop} {xs : List D} [g : Get s j (.l xs)] [p : Put s j (.d (.list xs)) s'] [p2 : Put s' i (.d (.list xs)) s''] : StepTo (putR i (.top j) s k) (k s'') := ⟨fun h => st_put_top_l h⟩
instance go_st_put_top_ll {k : S → Prop} {xs : List (List D)} [g : Get s j (.ll xs)] [p : Put s j (.d (.list (xs.map .list))) s'] [p2 : Put s' i (.d (.list (xs.map .list))) s''] : StepTo (putR i (.top j) s k) (k s'') := ⟨fun h => st_put_top_ll h⟩
instance go_st_put_top_dc {k : S → Prop} {xs : List (D × D)} [g : Get s j (.dc xs)] [p : Put s j (.d (.dict xs)) s'] [p2 : Put s' i (.d (.dict xs)) s''] : StepTo (putR i (.top j) s k) (k s'') := ⟨fun h => st_put_top_dc h⟩
instance go_st_unp {fg : FG} : StepTo (fUnp fg a ⟨nx, rt, bk, ct, xx⟩ s) (a xx s fun r s1 => frz r s1 fun d s2 => fg d s2 nx) := ⟨fun h => st_unp h⟩
instance go_st_par {fa : FA} : StepTo (fPar i j fa ⟨nx, rt, bk, ct, xx⟩ s) (fa xx s fun rs s2 => match rs with | [r1, r2] => frz r1 s2 fun d1 s3 => frz r2 s3 fun d2 s4 => putR i (.d d1) s4 fun s5 => putR j (.d d2) s5 nx | _ => False) := ⟨fun h => st_par h⟩
instance go_st_setIx : StepTo (fSetIx i b a ⟨nx, rt, bk, ct, xx⟩ s) (a xx s fun r s1 => onL i s1 fun _ => b xx s1 fun rj s2 => match rj with
  | .d (.int k) => frz r s2 fun d s3 => onL i s3 fun xs => 0 ≤ k ∧ k.toNat < xs.length ∧ putR i (.own (.l (xs.set k.toNat d))) s3 nx
  | _ => False) := ⟨fun h => st_setIx h⟩
instance go_st_onL {k : List D → Prop} {xs : List D} [e : Get s i (.l xs)] : StepTo (onL i s k) (k xs) := ⟨fun h => st_onL h⟩
instance go_st_wipe_nil {k : S → Prop} : StepTo (wipeK s [] k) (k s) := ⟨fun h => st_wipe_nil h⟩
instance go_st_wipe_cons {k : S → Prop} {is : List Nat} [p : Put s i .no s'] : StepTo (wipeK s (i :: is) k) (wipeK s' is k) := ⟨fun h => st_wipe_cons h⟩
instance go_st_for {it : FI} {fg : FG} {wp : List Nat} : StepTo (fFor it fg wp f1 ⟨nx, rt, bk, ct, xx⟩ s) (it xx s fun xs s1 => wipeK s1 wp fun s2 => fLoop fg wp f1 ⟨nx, rt, bk, ct, xx⟩ xs s2) := ⟨fun h => st_for h⟩
instance go_st_var_d [e : Get s i (.d x)] : StepTo (fVar i X s Q) (Q (.d x) s) := ⟨fun h => st_var_d h⟩
instance go_st_var_l {xs : List D} [e : Get s i (.l xs)] : StepTo (fVar i X s Q) (Q (.top i) s) := ⟨fun h => st_var_l h⟩
instance go_st_var_ll {xs : List (List D)} [e : Get s i (.ll xs)] : StepTo (fVar i X s Q) (Q (.top i) s) := ⟨fun h => st_var_ll h⟩
instance go_st_var_dc {xs : List (D × D)} [e : Get s i (.dc xs)] : StepTo (fVar i X s Q) (Q (.top i) s) := ⟨fun h => st_var_dc h⟩
instance go_st_C : StepTo (fC x X s Q) (Q (.d x) s) := ⟨fun h => st_C h⟩
instance go_st_nil {k : List R → S → Prop} : StepTo (fNil X s k) (k [] s) := ⟨fun h => st_nil h⟩
instance go_st_cons {k : List R → S → Prop} {fr : FA} : StepTo (fCons a fr X s k) (a X s fun x s1 => fr X s1 fun xs s2 => k (x :: xs) s2) := ⟨fun h => st_cons h⟩
instance go_st_tup {fr : FA} : StepTo (fTup fr X s Q) (fr X s fun rs s1 => frzAll rs s1 fun ds s2 => Q (.d (.tuple ds)) s2) := ⟨fun h => st_tup h⟩
instance go_st_lst {fr : FA} : StepTo (fLst fr X s Q) (fr X s fun rs s1 => frzAll rs s1 fun ds s2 => Q (.own (.l ds)) s2) := ⟨fun h => st_lst h⟩
instance go_st_op : StepTo (fOp g a b X s Q) (a X s fun r1 s1 => b X s1 fun r2 s2 => look s2 r1 fun d => look s2 r2 fun e => g d e fun r => Q r s2) := ⟨fun h => st_op h⟩
instance go_st_un {g1 : V1} : StepTo (fUn g1 a X s Q) (a X s fun r1 s1 => look s1 r1 fun d => g1 d fun r => Q r s1) := ⟨fun h => st_un h⟩
instance go_st_blt {gn : VN} {fr : FA} : StepTo (fBlt gn fr X s Q) (fr X s fun rs s1 => fBlt.lookAll s1 rs fun ds => gn ds fun r => Q r s1) := ⟨fun h => st_blt h⟩
instance go_st_lookAll_nil {k : List D → Prop} : StepTo (fBlt.lookAll s [] k) (k []) := ⟨fun h => st_lookAll_nil h⟩
instance go_st_lookAll_cons {k : List D → Prop} : StepTo (fBlt.lookAll s (r :: rs) k) (look s r fun d => fBlt.lookAll s rs fun ds => k (d :: ds)) := ⟨fun h => st_lookAll_cons h⟩
instance go_st_andV : StepTo (fAndV a b X s Q) (a X s fun r s1 => isB r fun c => if c = true then b X s1 Q else Q (.d (.bool false)) s1) := ⟨fun h => st_andV h⟩
instance go_st_orV : StepTo (fOrV a b X s Q) (a X s fun r s1 => isB r fun c => if c = true then Q (.d (.bool true)) s1 else b X s1 Q) := ⟨fun h => st_orV h⟩
instance go_st_notV : StepTo (fNotV a X s Q) (a X s fun r s1 => isB r fun c => Q (.d (.bool (!c))) s1) := ⟨fun h => st_notV h⟩
instance go_st_ifE : StepTo (fIfE t a b X s Q) (t X s fun c s1 => if c = true then a X s1 Q else b X s1 Q) := ⟨fun h => st_ifE h⟩
instance go_st_chain : StepTo (fChain g g' a b c X s Q) (a X s fun r1 s1 => b X s1 fun r2 s2 => look s2 r1 fun d => look s2 r2 fun e => g d e fun r => isB r fun k =>
  if k = true then c X s2 fun r3 s3 => look s3 r2 fun e' => look s3 r3 fun h => g' e' h fun z => Q z s3 else Q (.d (.bool false)) s2) := ⟨fun h => st_chain h⟩
instance go_st_sl {gs : D → Option Int → Option Int → (R → Prop) → Prop} {lo hi : FO} : StepTo (fSl gs a lo hi X s Q) (a X s fun r s1 => lo X s1 fun l s2 => hi X s2 fun h s3 => look s3 r fun d => gs d l h fun z => Q z s3) := ⟨fun h => st_sl h⟩
instance go_st_noPart {k : Option Int → S → Prop} : StepTo (fNoPart X s k) (k none s) := ⟨fun h => st_noPart h⟩
instance go_st_part {k : Option Int → S → Prop} : StepTo (fPart a X s k) (a X s fun r s1 => match r with | .d (.int i) => k (some i) s1 | _ => False) := ⟨fun h => st_part h⟩
instance go_st_putK_nil {fin : S} {k : S → Prop} : StepTo (putK [] [] fin s k) (k s) := ⟨fun h => st_putK_nil h⟩
instance go_st_putK_t {ms : List Bool} {fin : S} {f : SV} {k : S → Prop} [p : Put s i f s'] : StepTo (putK (true :: ms) (.top i :: rs) (f :: fin) s k) (putK ms rs fin s' k) := ⟨fun h => st_putK_t h⟩
instance go_st_putK_td {ms : List Bool} {fin : S} {f : SV} {k : S → Prop} : StepTo (putK (true :: ms) (.d x :: rs) (f :: fin) s k) (putK ms rs fin s k) := ⟨fun h => st_putK_td h⟩
instance go_st_putK_to {ms : List Bool} {fin : S} {f : SV} {k : S → Prop} : StepTo (putK (true :: ms) (.own v :: rs) (f :: fin) s k) (putK ms rs fin s k) := ⟨fun h => st_putK_to h⟩
instance go_st_putK_f {ms : List Bool} {fin : S} {f : SV} {k : S → Prop} : StepTo (putK (false :: ms) (r :: rs) (f :: fin) s k) (putK ms rs fin s k) := ⟨fun h => st_putK_f h⟩
instance go_st_lc {it : FI} {fg : FG} {wp : List Nat} : StepTo (fLc it fg wp t e X s Q) (it X s fun xs s1 => xs.length ≤ sizeLine ∧ wipeK s1 wp fun s2 => fComp (fun _ _ => False) fg wp t e Q xs [] s2) := ⟨fun h => st_lc h⟩
instance go_st_lm {lm : LM} {fr : FA} : StepTo (fLm i lm fr X s Q) (onL i s fun _ => fr X s fun rs s1 => frzAll rs s1 fun ds s2 => onL i s2 fun xs => lm xs ds fun d xs' => putR i (.own (.l xs')) s2 fun s3 => Q (.d d) s3) := ⟨fun h => st_lm h⟩
variable {q : Bool → S → Prop}
instance go_st_B : StepTo (fB a X s q) (a X s fun r s1 => isB r fun c => q c s1) := ⟨fun h => st_B h⟩
instance go_st_and : StepTo (fAnd t u X s q) (t X s fun c s1 => if c = true then u X s1 q else q false s1) := ⟨fun h => st_and h⟩
instance go_st_or : StepTo (fOr t u X s q) (t X s fun c s1 => if c = true then q true s1 else u X s1 q) := ⟨fun h => st_or h⟩
instance go_st_not : StepTo (fNot t X s q) (t X s fun c s1 => q (!c) s1) := ⟨fun h => st_not h⟩
instance go_st_yes : StepTo (fYes X s q) (q true s) := ⟨fun h => st_yes h⟩
instance go_st_isB {k : Bool → Prop} {z : Bool} : StepTo (isB (.d (.bool z)) k) (k z) := ⟨fun h => st_isB h⟩
instance go_st_t : StepTo (if true = true then A else B) (A) := ⟨fun h => st_t h⟩
instance go_st_f : StepTo (if false = true then A else B) (B) := ⟨fun h => st_f h⟩
instance go_st_nt : StepTo (if (!true) = true then A else B) (B) := ⟨fun h => st_nt h⟩
instance go_st_nf : StepTo (if (!false) = true then A else B) (A) := ⟨fun h => st_nf h⟩
instance go_st_look_d {k : D → Prop} : StepTo (look s (.d x) k) (k x) := ⟨fun h => st_look_d h⟩
instance go_st_look_own {k : D → Prop} {xs : List D} : StepTo (look s (.own (.l xs)) k) (k (.list xs)) := ⟨fun h => st_look_own h⟩
instance go_st_look_own_dc {k : D → Prop} {xs : List (D × D)} : StepTo (look s (.own (.dc xs)) k) (k (.dict xs)) := ⟨fun h => st_look_own_dc h⟩
instance go_st_look_top {k : D → Prop} {xs : List D} [e : Get s i (.l xs)] : StepTo (look s (.top i) k) (k (.list xs)) := ⟨fun h => st_look_top h⟩
instance go_st_look_top_d {k : D → Prop} [e : Get s i (.d x)] : StepTo (look s (.top i) k) (k x) := ⟨fun h => st_look_top_d h⟩
instance go_st_look_top_dc {k : D → Prop} {xs : List (D × D)} [e : Get s i (.dc xs)] : StepTo (look s (.top i) k) (k (.dict xs)) := ⟨fun h => st_look_top_dc h⟩
instance go_st_frz_d {k : D → S → Prop} : StepTo (frz (.d x) s k) (k x s) := ⟨fun h => st_frz_d h⟩
instance go_st_frz_own {k : D → S → Prop} {xs : List D} : StepTo (frz (.own (.l xs)) s k) (k (.list xs) s) := ⟨fun h => st_frz_own h⟩
instance go_st_frz_own_ll {k : D → S → Prop} {xs : List (List D)} : StepTo (frz (.own (.ll xs)) s k) (k (.list (xs.map .list)) s) := ⟨fun h => st_frz_own_ll h⟩
instance go_st_frz_own_dc {k : D → S → Prop} {xs : List (D × D)} : StepTo (frz (.own (.dc xs)) s k) (k (.dict xs) s) := ⟨fun h => st_frz_own_dc h⟩
instance go_st_frz_top {k : D → S → Prop} {xs : List D} [e : Get s i (.l xs)] [p : Put s i (.d (.list xs)) s'] : StepTo (frz (.top i) s k) (k (.list xs) s') := ⟨fun h => st_frz_top h⟩
instance go_st_frz_top_ll {k : D → S → Prop} {xs : List (List D)} [e : Get s i (.ll xs)] [p : Put s i (.d (.list (xs.map .list))) s'] : StepTo (frz (.top i) s k) (k (.list (xs.map .list)) s') := ⟨fun h => st_frz_top_ll h⟩
instance go_st_frz_top_dc {k : D → S → Prop} {xs : List (D × D)} [e : Get s i (.dc xs)] [p : Put s i (.d (.dict xs)) s'] : StepTo (frz (.top i) s k) (k (.dict xs) s') := ⟨fun h => st_frz_top_dc h⟩
instance go_st_frzAll_nil {k : List D → S → Prop} : StepTo (frzAll [] s k) (k [] s) := ⟨fun h => st_frzAll_nil h⟩
instance go_st_frzAll_cons {k : List D → S → Prop} : StepTo (frzAll (r :: rs) s k) (frz r s fun x s1 => frzAll rs s1 fun xs s2 => k (x :: xs) s2) := ⟨fun h => st_frzAll_cons h⟩
variable {ms : List Bool} {kb : List SV → S → Prop}
instance go_st_bind_nil : StepTo (bindA [] [] s kb) (kb [] s) := ⟨fun h => st_bind_nil h⟩
instance go_st_bind_f : StepTo (bindA (false :: ms) (r :: rs) s kb) (frz r s fun x s1 => bindA ms rs s1 fun svs s2 => kb (.d x :: svs) s2) := ⟨fun h => st_bind_f h⟩
instance go_st_bind_tt [g : Get s i v] [p : Put s i .no s'] : StepTo (bindA (true :: ms) (.top i :: rs) s kb) (bindA ms rs s' fun svs s2 => kb (v :: svs) s2) := ⟨fun h => st_bind_tt h⟩
instance go_st_bind_td : StepTo (bindA (true :: ms) (.d x :: rs) s kb) (bindA ms rs s fun svs s2 => kb (.d x :: svs) s2) := ⟨fun h => st_bind_td h⟩
instance go_st_bind_to : StepTo (bindA (true :: ms) (.own v :: rs) s kb) (bindA ms rs s fun svs s2 => kb (v :: svs) s2) := ⟨fun h => st_bind_to h⟩
instance go_st_out_d {k : R → S → Prop} : StepTo (outR (.d x) s k) (k (.d x) s) := ⟨fun h => st_out_d h⟩
instance go_st_out_own {k : R → S → Prop} : StepTo (outR (.own v) s k) (k (.own v) s) := ⟨fun h => st_out_own h⟩
instance go_st_out_top {k : R → S → Prop} [g : Get s i v] [p : Put s i .no s'] : StepTo (outR (.top i) s k) (k (.own v) s') := ⟨fun h => st_out_top h⟩
variable {kl : List D → S → Prop} {fr : FA} {ds : List D} {n m : Int}
instance go_st_seqI : StepTo (iSeq a X s kl) (a X s fun r s1 => frz r s1 fun d s2 => match d with | .list xs => kl xs s2 | .tuple xs => kl xs s2 | _ => False) := ⟨fun h => st_seqI h⟩
instance go_st_range1 : StepTo (iRange1 fr X s kl) (fr X s fun rs s1 => match rs with | [.d (.int j)] => lim62 j ∧ kl (rangeD 0 j.toNat) s1 | _ => False) := ⟨fun h => st_range1 h⟩
instance go_st_range2 : StepTo (iRange2 fr X s kl) (fr X s fun rs s2 => match rs with | [.d (.int i), .d (.int j)] => lim62 i ∧ lim62 j ∧ kl (rangeD i (j - i).toNat) s2 | _ => False) := ⟨fun h => st_range2 h⟩
instance go_st_enum : StepTo (iEnum fr X s kl) (fr X s fun rs s1 => frzAll rs s1 fun ds s2 => match ds with
  | [.list xs] => kl (enumD xs) s2
  | [.tuple xs] => kl (enumD xs) s2
  | _ => False) := ⟨fun h => st_enum h⟩
instance go_st_zip : StepTo (iZip fr X s kl) (fr X s fun rs s1 => frzAll rs s1 fun ds s4 => match ds with
  | [.list xs, .list ys] => kl (zipD xs ys) s4
  | [.tuple xs, .list ys] => kl (zipD xs ys) s4
  | [.list xs, .tuple ys] => kl (zipD xs ys) s4
  | [.tuple xs, .tuple ys] => kl (zipD xs ys) s4
  | _ => False) := ⟨fun h => st_zip h⟩
instance go_st_nm {k : S → Prop} [p : Put s i (.d x) s'] : StepTo (gNm i x s k) (k s') := ⟨fun h => st_nm h⟩
instance go_st_tp {k : S → Prop} {fgs : List FG} : StepTo (gTp fgs (.tuple ds) s k) (gTp.gTps fgs ds s k) := ⟨fun h => st_tp h⟩
instance go_st_tps_nil {k : S → Prop} : StepTo (gTp.gTps [] [] s k) (k s) := ⟨fun h => st_tps_nil h⟩
instance go_st_tps_cons {k : S → Prop} {fg : FG} {fgs : List FG} : StepTo (gTp.gTps (fg :: fgs) (x :: ds) s k) (fg x s fun s1 => gTp.gTps fgs ds s1 k) := ⟨fun h => st_tps_cons h⟩
variable {k : R → Prop} {xs ys : List D}
instance go_st_add_i : StepTo (opAdd (.int n) (.int m) k) (k (.d (.int (n + m)))) := ⟨fun h => st_add_i h⟩
instance go_st_sub_i : StepTo (opSub (.int n) (.int m) k) (k (.d (.int (n - m)))) := ⟨fun h => st_sub_i h⟩
instance go_st_neg_i : StepTo (uNeg (.int n) k) (k (.d (.int (-n)))) := ⟨fun h => st_neg_i h⟩
instance go_st_eq_i : StepTo (cEq (.int n) (.int m) k) (k (.d (.bool (decide (n = m))))) := ⟨fun h => st_eq_i h⟩
instance go_st_ne_i : StepTo (cNe (.int n) (.int m) k) (k (.d (.bool (!decide (n = m))))) := ⟨fun h => st_ne_i h⟩
instance go_st_eq_b {p q : Bool} : StepTo (cEq (.bool p) (.bool q) k) (k (.d (.bool (p == q)))) := ⟨fun h => st_eq_b h⟩
instance go_st_ne_b {p q : Bool} : StepTo (cNe (.bool p) (.bool q) k) (k (.d (.bool (!(p == q))))) := ⟨fun h => st_ne_b h⟩
instance go_st_eq_str {p q : Str} : StepTo (cEq (.str p) (.str q) k) (k (.d (.bool (decide (p = q))))) := ⟨fun h => st_eq_str h⟩
instance go_st_ne_str {p q : Str} : StepTo (cNe (.str p) (.str q) k) (k (.d (.bool (!decide (p = q))))) := ⟨fun h => st_ne_str h⟩
instance go_st_lt_i : StepTo (cLt (.int n) (.int m) k) (k (.d (.bool (decide (n < m))))) := ⟨fun h => st_lt_i h⟩
instance go_st_le_i : StepTo (cLe (.int n) (.int m) k) (k (.d (.bool (decide (n ≤ m))))) := ⟨fun h => st_le_i h⟩
instance go_st_gt_i : StepTo (cGt (.int n) (.int m) k) (k (.d (.bool (decide (m < n))))) := ⟨fun h => st_gt_i h⟩
instance go_st_ge_i : StepTo (cGe (.int n) (.int m) k) (k (.d (.bool (decide (m ≤ n))))) := ⟨fun h => st_ge_i h⟩
instance go_st_is_n : StepTo (cIs x .none k) (k (.d (.bool (isNone x)))) := ⟨fun h => st_is_n h⟩
instance go_st_isNot_n : StepTo (cIsNot x .none k) (k (.d (.bool (!isNone x)))) := ⟨fun h => st_isNot_n h⟩
instance go_st_is_b {p q : Bool} : StepTo (cIs (.bool p) (.bool q) k) (k (.d (.bool (decide (p = q))))) := ⟨fun h => st_is_b h⟩
instance go_st_isNot_b {p q : Bool} : StepTo (cIsNot (.bool p) (.bool q) k) (k (.d (.bool (!decide (p = q))))) := ⟨fun h => st_isNot_b h⟩
instance go_st_len_l : StepTo (bLen [.list xs] k) (k (.d (.int (xs.length : Nat)))) := ⟨fun h => st_len_l h⟩
instance go_st_len_t : StepTo (bLen [.tuple xs] k) (k (.d (.int (xs.length : Nat)))) := ⟨fun h => st_len_t h⟩
instance go_st_len_lit {ns : List Int} : StepTo (bLen [litD ns] k) (k (.d (.int (ns.length : Nat)))) := ⟨fun h => st_len_lit h⟩
instance go_st_abs : StepTo (bAbs [.int n] k) (k (.d (.int (n.natAbs : Nat)))) := ⟨fun h => st_abs h⟩
instance go_st_max2 : StepTo (bMax2 [.int n, .int m] k) (k (.d (.int (max n m)))) := ⟨fun h => st_max2 h⟩
instance go_st_min2 : StepTo (bMin2 [.int n, .int m] k) (k (.d (.int (min n m)))) := ⟨fun h => st_min2 h⟩
instance go_st_int_i : StepTo (bInt [.int n] k) (k (.d (.int n))) := ⟨fun h => st_int_i h⟩
instance go_st_int_b {p : Bool} : StepTo (bInt [.bool p] k) (k (.d (.int (if p then 1 else 0)))) := ⟨fun h => st_int_b h⟩
instance go_st_tuple_l : StepTo (bTuple [.list xs] k) (k (.d (.tuple xs))) := ⟨fun h => st_tuple_l h⟩
instance go_st_tuple_t : StepTo (bTuple [.tuple xs] k) (k (.d (.tuple xs))) := ⟨fun h => st_tuple_t h⟩
instance go_st_list_l : StepTo (bList [.list xs] k) (k (.own (.l xs))) := ⟨fun h => st_list_l h⟩
instance go_st_list_t : StepTo (bList [.tuple xs] k) (k (.own (.l xs))) := ⟨fun h => st_list_t h⟩
instance go_st_sl_l {lo hi : Option Int} : StepTo (slD (.list xs) lo hi k) (k (.own (.l (slD.cutL xs lo hi)))) := ⟨fun h => st_sl_l h⟩
instance go_st_sl_t {lo hi : Option Int} : StepTo (slD (.tuple xs) lo hi k) (k (.d (.tuple (slD.cutL xs lo hi)))) := ⟨fun h => st_sl_t h⟩
end
end Hs
namespace Hs
open PySem
section
variable {X : XF} {s : S} {Q : R → S → Prop} {fa fb : FE} {n m : Int} {k : R → Prop} {xs ys : List D} {x y : D}
theorem st_rg1 {mk : List D → R} (h : fa X s fun r s1 => match r with | .d (.int j) => L2.RgOk 0 j ∧ Q (mk (rangeD 0 j.toNat)) s1 | _ => False) : fRg1 mk fa X s Q := h
theorem st_rg2 {mk : List D → R} (h : fa X s fun r1 s1 => fb X s1 fun r2 s2 => match r1, r2 with | .d (.int i), .d (.int j) => L2.RgOk i j ∧ Q (mk (rangeD i (j - i).toNat)) s2 | _, _ => False) : fRg2 mk fa fb X s Q := h
theorem st_enumL {fr : FA} {kl : List D → S → Prop} (h : fr X s fun rs s1 => frzAll rs s1 fun ds s2 => match ds with
  | [.list xs] => kl (enumD xs) s2
  | [.tuple xs] => kl (enumD xs) s2
  | _ => False) : iEnumL fr X s kl := h
theorem st_zipS {fr : FA} {kl : List D → S → Prop} (h : fr X s fun rs s1 => frzAll rs s1 fun ds s4 => match ds with
  | [.list xs, .list ys] => kl (zipD xs ys) s4
  | [.tuple xs, .tuple ys] => kl (zipD xs ys) s4
  | _ => False) : iZipS fr X s kl := h
theorem st_rev_l (h : k (.own (.l xs.reverse))) : revD (.list xs) k := h
theorem st_rev_t (h : k (.d (.tuple xs.reverse))) : revD (.tuple xs) k := h
theorem st_in_t (z1 : SeqAt.shaped x = true) (z2 : SeqAt.shaped (.tuple xs) = true) (h : k (.d (.bool (xs.any fun z => PyData.eqv z x)))) : cIn x (.tuple xs) k := ⟨z1, z2, h⟩
theorem st_in_l (z1 : SeqAt.shaped x = true) (z2 : SeqAt.shaped (.list xs) = true) (h : k (.d (.bool (xs.any fun z => PyData.eqv z x)))) : cIn x (.list xs) k := ⟨z1, z2, h⟩
theorem st_notIn_t (z1 : SeqAt.shaped x = true) (z2 : SeqAt.shaped (.tuple xs) = true) (h : k (.d (.bool (!xs.any fun z => PyData.eqv z x)))) : cNotIn x (.tuple xs) k := ⟨z1, z2, h⟩
theorem st_notIn_l (z1 : SeqAt.shaped x = true) (z2 : SeqAt.shaped (.list xs) = true) (h : k (.d (.bool (!xs.any fun z => PyData.eqv z x)))) : cNotIn x (.list xs) k := ⟨z1, z2, h⟩
theorem st_lt_t {ns ms : List Int} (e1 : intsOf xs = some ns) (e2 : intsOf ys = some ms) (h : k (.d (.bool (HT.lexLt ns ms)))) : cLt (.tuple xs) (.tuple ys) k := by
  show (match intsOf xs, intsOf ys with | some ns, some ms => k (.d (.bool (HT.lexLt ns ms))) | _, _ => False)
  rw [e1, e2]; exact h
theorem pairsOf_map' : ∀ ps : List (Int × Int), pairsOf (ps.map pairD) = some ps
  | [] => rfl
  | p :: ps => by
    show (match pairOf (pairD p), pairsOf (ps.map pairD) with | some p, some ps => some (p :: ps) | _, _ => none) = _
    rw [pairsOf_map' ps]; rfl
theorem st_sort_p {ps : List (Int × Int)} (e : xs = ps.map pairD) (h : ∀ qs : List (Int × Int), qs.Perm ps → qs.Pairwise (fun p q => ltPr q p = false) → k (.own (.l (qs.map pairD)))) : bSorted [.list xs] k := by
  subst e
  cases ps with
  | nil => exact fun ms hp hs => by rw [hp.eq_nil]; exact h [] (List.Perm.refl _) .nil
  | cons p ps =>
    show (match pairsOf ((p :: ps).map pairD) with | some _ => bSortP [.list ((p :: ps).map pairD)] k | none => bSortT [.list ((p :: ps).map pairD)] k)
    rw [pairsOf_map']
    show (match pairsOf ((p :: ps).map pairD) with | some ps => ∀ qs : List (Int × Int), qs.Perm ps → qs.Pairwise (fun p q => ltPr q p = false) → k (.own (.l (qs.map pairD))) | none => False)
    rw [pairsOf_map']
    exact h
end
/-- all of truths -/
theorem st_all_true {k : R → Prop} {xs : List D} (h : k (.d (.bool true))) : bAll [.list (xs.map fun _ => .bool true)] k := by
  refine st_all (bs := xs.map fun _ => true) (by simp) ?_
  rw [show (xs.map fun _ => true).all id = true by simp]
  exact h
/-- a comprehension all of whose items are true -/
theorem comp_true {X : XF} {fg : FG} {wp : List Nat} {e : FE} {Q : R → S → Prop} {s : S} {xs : List D} (hs : ∀ x, x ∈ xs → ∀ (kT : D → S → Prop), kT (.bool true) s → fg x s fun s1 => e X s1 fun r s3 => frz r s3 fun d s4 => kT d (wipeS s4 wp)) (h : Q (.own (.l (xs.map fun _ => .bool true))) s) :
    fComp X fg wp fYes e Q xs [] s := comp_all (fun _ => .bool true) xs [] hs (by simpa using h)
/-- a comprehension that changes the state -/
theorem comp_inv {X : XF} {fg : FG} {wp : List Nat} {t : FT} {e : FE} {Q : R → S → Prop} (I : List D → List D → S → Prop) (hend : ∀ acc s, I [] acc s → Q (.own (.l acc)) s)
    (hstep : ∀ x xs acc s (kT : D → S → Prop) (kF : S → Prop), I (x :: xs) acc s → (∀ d s', I xs (acc ++ [d]) s' → kT d s') → (∀ s', I xs acc s' → kF s') → fg x s fun s1 => t X s1 fun b s2 => if b = true then e X s2 fun r s3 => frz r s3 fun d s4 => kT d (wipeS s4 wp) else kF (wipeS s2 wp)) :
    ∀ xs acc s, I xs acc s → fComp X fg wp t e Q xs acc s
  | [], acc, s, h => hend acc s h
  | x :: xs, acc, s, h => hstep x xs acc s (fun d s4 => fComp X fg wp t e Q xs (acc ++ [d]) s4) (fun s4 => fComp X fg wp t e Q xs acc s4) h (fun d s' h' => comp_inv I hend hstep xs _ s' h') fun s' h' => comp_inv I hend hstep xs _ s' h'
/-- a tuple of whole numbers -/
def IntT (m : Nat) (d : D) : Prop := ∃ ks : List Int, d = .tuple (ks.map .int) ∧ ks.length ≤ m
theorem IntT.cut {m : Nat} {ks : List Int} {lo hi : Option Int} (h : ks.length ≤ m) : ∃ ls : List Int, slD.cutL (ks.map PyData.int) lo hi = ls.map PyData.int ∧ ls.length ≤ m := by
  unfold slD.cutL
  rw [List.length_map, ← List.map_drop, ← List.map_take]
  exact ⟨_, rfl, by rw [List.length_take, List.length_drop]; omega⟩
theorem comp_list {α : Type} {X : XF} {fg : FG} {wp : List Nat} {e : FE} {Q : R → S → Prop} {s : S} (g f : α → D) (l : List α) (hs : ∀ a, a ∈ l → ∀ (kT : D → S → Prop), kT (f a) s → fg (g a) s fun s1 => e X s1 fun r s3 => frz r s3 fun d s4 => kT d (wipeS s4 wp)) (h : Q (.own (.l (l.map f))) s) :
    fComp X fg wp fYes e Q (l.map g) [] s := by
  have go : ∀ (l : List α) (acc : List D), (∀ a, a ∈ l → ∀ (kT : D → S → Prop), kT (f a) s → fg (g a) s fun s1 => e X s1 fun r s3 => frz r s3 fun d s4 => kT d (wipeS s4 wp)) → Q (.own (.l (acc ++ l.map f))) s → fComp X fg wp fYes e Q (l.map g) acc s := by
    intro l
    induction l with
    | nil =>
      intro acc _ h
      have h : Q (.own (.l (acc ++ []))) s := h
      rw [List.append_nil] at h
      exact h
    | cons a l ih =>
      intro acc hs h
      exact hs a List.mem_cons_self (fun d s4 => fComp X fg wp fYes e Q (l.map g) (acc ++ [d]) s4) (ih _ (fun b hb => hs b (List.mem_cons_of_mem _ hb)) (by simpa using h))
  exact go l [] hs (by simpa using h)
theorem comp_filter {α : Type} {X : XF} {fg : FG} {wp : List Nat} {t : FT} {e : FE} {Q : R → S → Prop} {s : S} (g f : α → D) (p : α → Bool) (l : List α)
    (hs : ∀ a, a ∈ l → ∀ (kT : D → S → Prop) (kF : S → Prop), (p a = true → kT (f a) s) → (p a = false → kF s) → fg (g a) s fun s1 => t X s1 fun b s2 => if b = true then e X s2 fun r s3 => frz r s3 fun d s4 => kT d (wipeS s4 wp) else kF (wipeS s2 wp)) (h : Q (.own (.l ((l.filter p).map f))) s) :
    fComp X fg wp t e Q (l.map g) [] s := by
  have go : ∀ (l : List α) (acc : List D), (∀ a, a ∈ l → ∀ (kT : D → S → Prop) (kF : S → Prop), (p a = true → kT (f a) s) → (p a = false → kF s) → fg (g a) s fun s1 => t X s1 fun b s2 => if b = true then e X s2 fun r s3 => frz r s3 fun d s4 => kT d (wipeS s4 wp) else kF (wipeS s2 wp)) →
      Q (.own (.l (acc ++ (l.filter p).map f))) s → fComp X fg wp t e Q (l.map g) acc s := by
    intro l
    induction l with
    | nil =>
      intro acc _ h
      have h : Q (.own (.l (acc ++ []))) s := h
      rw [List.append_nil] at h
      exact h
    | cons a l ih =>
      intro acc hs h
      refine hs a List.mem_cons_self (fun d s4 => fComp X fg wp t e Q (l.map g) (acc ++ [d]) s4) (fun s4 => fComp X fg wp t e Q (l.map g) acc s4) (fun q => ?_) (fun q => ?_)
      · exact ih _ (fun b hb => hs b (List.mem_cons_of_mem _ hb)) (by rw [List.filter_cons_of_pos (by simp [q])] at h; simpa using h)
      · exact ih _ (fun b hb => hs b (List.mem_cons_of_mem _ hb)) (by rw [List.filter_cons_of_neg (by simp [q])] at h; exact h)
  exact go l [] hs (by simpa using h)
theorem st_all_map {α : Type} {l : List α} {b : α → Bool} {k : R → Prop} (h : k (.d (.bool (l.all b)))) : bAll [.list (l.map fun a => .bool (b a))] k := by
  refine st_all (bs := l.map b) (by simp) ?_
  rw [List.all_map]
  exact h
theorem st_any_map {α : Type} {l : List α} {b : α → Bool} {k : R → Prop} (h : k (.d (.bool (l.any b)))) : bAny [.list (l.map fun a => .bool (b a))] k := by
  refine st_any (bs := l.map b) (by simp) ?_
  rw [List.any_map]
  exact h
theorem loop_list {α : Type} {nx bk ct : S → Prop} {rt : R → S → Prop} {xx : XF} {f1 : FS} {fg : FG} {wp : List Nat} (g : α → D) (I : List α → S → Prop) (hend : ∀ s, I [] s → nx s)
    (hstep : ∀ a l s (k : S → Prop), I (a :: l) s → (∀ s', I l s' → k s') → fg (g a) s fun s1 => f1 ⟨fun s2 => k (wipeS s2 wp), rt, fun s2 => wipeK s2 wp nx, fun s2 => k (wipeS s2 wp), xx⟩ s1) : ∀ l s, I l s → fLoop fg wp f1 ⟨nx, rt, bk, ct, xx⟩ (l.map g) s
  | [], s, h => hend s h
  | a :: l, s, h => hstep a l s (fLoop fg wp f1 ⟨nx, rt, bk, ct, xx⟩ (l.map g)) h fun s' h' => loop_list g I hend hstep l s' h'
theorem st_mul_l {xs : List D} {n : Int} {k : R → Prop} (z1 : -(2 ^ 63) ≤ n) (z2 : n < 2 ^ 63) (z3 : xs.length * n.toNat ≤ sizeLine) (h : k (.own (.l (List.replicate n.toNat xs).flatten))) : opMul (.list xs) (.int n) k := ⟨z1, z2, z3, h⟩
theorem st_ne_lit {ns : List Int} {k : R → Prop} (h : k (.d (.bool (decide (0 < ns.length))))) : cNe (litD ns) (.list []) k := by
  have one : ∀ ns : List Int, PyData.canLayAll0 (ns.map PyData.int) = true ∧ PyData.depthAll (ns.map PyData.int) ≤ 1 := by
    intro ns
    induction ns with
    | nil => exact ⟨rfl, by show (0 : Nat) ≤ 1; decide⟩
    | cons n ns ih =>
      refine ⟨?_, ?_⟩
      · show ((PyData.int n).canLay0 && PyData.canLayAll0 (ns.map PyData.int)) = true
        rw [ih.1]; rfl
      · show max ((PyData.int n).depth) (PyData.depthAll (ns.map PyData.int)) ≤ 1
        have h2 : (PyData.int n).depth ≤ 1 := by simp [PyData.depth]
        have h3 := ih.2
        omega
  obtain ⟨o1, o2⟩ := one ns
  refine st_ne (x := litD ns) ?_ rfl ?_
  · show SeqAt.shaped (.list (ns.map PyData.int)) = true
    unfold SeqAt.shaped
    rw [show (PyData.list (ns.map PyData.int)).canLay0 = PyData.canLayAll0 (ns.map PyData.int) from by simp [PyData.canLay0], o1]
    simp [PyData.depth]
    omega
  · show k (.d (.bool (!PyData.eqvAll (ns.map PyData.int) [])))
    cases ns with
    | nil => exact h
    | cons n ns => simpa [PyData.eqvAll] using h
theorem shaped_int {i : Int} : SeqAt.shaped (.int i) = true := rfl
theorem canLay_pairs : ∀ ts : List (Int × Int), PyData.canLayAll0 (ts.map pairD) = true
  | [] => rfl
  | t :: ts => by
    show ((pairD t).canLay0 && PyData.canLayAll0 (ts.map pairD)) = true
    rw [canLay_pairs ts]; rfl
theorem depth_pairs : ∀ ts : List (Int × Int), PyData.depthAll (ts.map pairD) ≤ 2
  | [] => by show (0 : Nat) ≤ 2; decide
  | t :: ts => by
    show max ((pairD t).depth) (PyData.depthAll (ts.map pairD)) ≤ 2
    have h := depth_pairs ts
    have h2 : (pairD t).depth ≤ 2 := by unfold pairD; simp [PyData.depth, PyData.depthAll]
    omega
theorem shaped_pairD {p : Int × Int} : SeqAt.shaped (pairD p) = true := rfl
theorem shaped_pairs {ts : List (Int × Int)} : SeqAt.shaped (.tuple (ts.map pairD)) = true := by
  unfold SeqAt.shaped
  rw [show (PyData.tuple (ts.map pairD)).canLay0 = PyData.canLayAll0 (ts.map pairD) from by simp [PyData.canLay0], canLay_pairs]
  have h := depth_pairs ts
  simp [PyData.depth]
  omega
theorem shaped_pairsL {ts : List (Int × Int)} : SeqAt.shaped (.list (ts.map pairD)) = true := by
  unfold SeqAt.shaped
  rw [show (PyData.list (ts.map pairD)).canLay0 = PyData.canLayAll0 (ts.map pairD) from by simp [PyData.canLay0], canLay_pairs]
  have h := depth_pairs ts
  simp [PyData.depth]
  omega
theorem eqv_pair {p q : Int × Int} : PyData.eqv (pairD p) (pairD q) = decide (p = q) := by
  obtain ⟨a, b⟩ := p
  obtain ⟨c, d⟩ := q
  simp only [pairD, PyData.eqv, PyData.eqvAll, Prod.mk.injEq, Bool.and_true]
  by_cases h1 : a = c <;> by_cases h2 : b = d <;> simp [h1, h2]
theorem any_pair {ts : List (Int × Int)} {p : Int × Int} : ((ts.map pairD).any fun z => PyData.eqv z (pairD p)) = decide (p ∈ ts) := by
  rw [List.any_map]
  apply Bool.eq_iff_iff.mpr
  simp only [List.any_eq_true, Function.comp, eqv_pair, decide_eq_true_eq]
  constructor
  · rintro ⟨q, h, rfl⟩; exact h
  · intro h; exact ⟨p, h, rfl⟩
theorem st_in_pt {ts : List (Int × Int)} {a b : Int} {k : R → Prop} (h : k (.d (.bool (decide ((a, b) ∈ ts))))) : cIn (.tuple [.int a, .int b]) (.tuple (ts.map pairD)) k := by
  refine st_in_t (shaped_pairD (p := (a, b))) shaped_pairs ?_
  rw [show (PyData.tuple [.int a, .int b]) = pairD (a, b) from rfl, any_pair]
  exact h
theorem st_in_pl {ts : List (Int × Int)} {a b : Int} {k : R → Prop} (h : k (.d (.bool (decide ((a, b) ∈ ts))))) : cIn (.tuple [.int a, .int b]) (.list (ts.map pairD)) k := by
  refine st_in_l (shaped_pairD (p := (a, b))) shaped_pairsL ?_
  rw [show (PyData.tuple [.int a, .int b]) = pairD (a, b) from rfl, any_pair]
  exact h
/-- a web -/
abbrev webD (n : Int) (ts : List (Int × Int)) : D := .tuple [.int n, .tuple (ts.map pairD)]
structure Good (n : Int) (ts : List (Int × Int)) : Prop where
  n0 : 0 ≤ n
  n10 : n ≤ 10
  ties : ∀ p ∈ ts, 0 ≤ p.1 ∧ p.1 < p.2 ∧ p.2 < n
  up : ts.Pairwise (fun p q => ltPr p q = true)
  few : ts.length ≤ 1000
theorem lex_pair {p q : Int × Int} : HT.lexLt [p.1, p.2] [q.1, q.2] = ltPr p q := by
  unfold ltPr
  rw [HT.lexLt_cons]
  by_cases h : p.1 = q.1
  · rw [if_pos h, h, HT.lexLt_cons]
    by_cases h2 : p.2 = q.2
    · rw [if_pos h2, h2]; simp [HT.lexLt_nil_nil]
    · rw [if_neg h2]; simp
  · rw [if_neg h]; simp [h]
theorem at_ok {ns : List Int} {i : Int} (h0 : 0 ≤ i) (h1 : i < (ns.length : Int)) : ∃ z, L2.atI ns i = some z := by
  obtain ⟨k, rfl⟩ := Int.eq_ofNat_of_zero_le h0
  have hk : k < ns.length := by omega
  exact ⟨ns[k], L2.atI_nat (by simp [hk])⟩
/-- sorted, each once: strictly rising -/
theorem strict_of {ps qs : List (Int × Int)} (hp : qs.Perm ps) (hn : ps.Nodup) (hs : qs.Pairwise (fun p q => ltPr q p = false)) : qs.Pairwise (fun p q => ltPr p q = true) := by
  have hn' : qs.Pairwise (· ≠ ·) := hp.nodup_iff.mpr hn
  refine (List.Pairwise.and hs hn').imp fun {p q} h => ?_
  obtain ⟨h1, h2⟩ := h
  obtain ⟨a, b⟩ := p
  obtain ⟨c, d⟩ := q
  unfold ltPr at *
  simp only [Bool.or_eq_true, decide_eq_true_eq, Bool.and_eq_true, beq_iff_eq, Bool.or_eq_false_iff, Bool.and_eq_false_iff, decide_eq_false_iff_not, beq_eq_false_iff_ne, ne_eq, Prod.mk.injEq] at *
  omega
def atZ (ks : List Int) (i : Int) : Int := ks.getD i.toNat 0
theorem atZ_ok {ks : List Int} {i : Int} (h0 : 0 ≤ i) (h1 : i < (ks.length : Int)) : L2.atI (ks.map PyData.int) i = some (.int (atZ ks i)) := by
  obtain ⟨k, rfl⟩ := Int.eq_ofNat_of_zero_le h0
  have hk : k < ks.length := by omega
  refine L2.atI_nat ?_
  rw [List.getElem?_map, List.getElem?_eq_getElem hk]
  simp [atZ, List.getD_eq_getElem?_getD, List.getElem?_eq_getElem hk]
theorem lay_ints : ∀ ns : List Int, PyData.canLayAll0 (ns.map PyData.int) = true ∧ PyData.depthAll (ns.map PyData.int) ≤ 1
  | [] => ⟨rfl, Nat.zero_le _⟩
  | n :: ns => by
    obtain ⟨h1, h2⟩ := lay_ints ns
    refine ⟨by show ((PyData.int n).canLay0 && PyData.canLayAll0 (ns.map PyData.int)) = true; rw [h1]; rfl, ?_⟩
    show max ((PyData.int n).depth) (PyData.depthAll (ns.map PyData.int)) ≤ 1
    have h3 : (PyData.int n).depth ≤ 1 := by simp [PyData.depth]
    omega
theorem shaped_intsL {ns : List Int} : SeqAt.shaped (.list (ns.map PyData.int)) = true := by
  obtain ⟨h1, h2⟩ := lay_ints ns
  unfold SeqAt.shaped
  rw [show (PyData.list (ns.map PyData.int)).canLay0 = PyData.canLayAll0 (ns.map PyData.int) from by simp [PyData.canLay0], h1]
  simp [PyData.depth]
  omega
theorem shaped_intsT {ns : List Int} : SeqAt.shaped (.tuple (ns.map PyData.int)) = true := by
  obtain ⟨h1, h2⟩ := lay_ints ns
  unfold SeqAt.shaped
  rw [show (PyData.tuple (ns.map PyData.int)).canLay0 = PyData.canLayAll0 (ns.map PyData.int) from by simp [PyData.canLay0], h1]
  simp [PyData.depth]
  omega
theorem eqv_ints : ∀ ns ms : List Int, PyData.eqvAll (ns.map PyData.int) (ms.map PyData.int) = decide (ns = ms)
  | [], [] => rfl
  | [], _ :: _ => rfl
  | _ :: _, [] => rfl
  | n :: ns, m :: ms => by
    show (PyData.eqv (.int n) (.int m) && PyData.eqvAll (ns.map PyData.int) (ms.map PyData.int)) = _
    rw [eqv_ints ns ms]
    simp only [PyData.eqv]
    by_cases h1 : n = m <;> by_cases h2 : ns = ms <;> simp [h1, h2]
theorem st_ne_ll {ns ms : List Int} {k : R → Prop} (h : k (.d (.bool (!decide (ns = ms))))) : cNe (.list (ns.map .int)) (.list (ms.map .int)) k := by
  refine st_ne (x := .list (ns.map .int)) (y := .list (ms.map .int)) shaped_intsL shaped_intsL ?_
  show k (.d (.bool (!PyData.eqvAll (ns.map .int) (ms.map .int))))
  rw [eqv_ints]
  exact h
def rangeI (n : Nat) : List Int := (List.range n).map fun (k : Nat) => (k : Int)
theorem rangeD_map {n : Nat} : rangeD 0 n = (rangeI n).map PyData.int := by
  unfold rangeD rangeI
  rw [List.map_map]
  apply List.map_congr_left
  intro k _
  simp
theorem rangeI_len {n : Nat} : (rangeI n).length = n := by unfold rangeI; simp
theorem rangeI_mem {n : Nat} {i : Int} : i ∈ rangeI n ↔ 0 ≤ i ∧ i < n := by
  unfold rangeI
  rw [List.mem_map]
  constructor
  · rintro ⟨k, hk, rfl⟩
    have := List.mem_range.mp hk
    omega
  · rintro ⟨h0, h1⟩
    exact ⟨i.toNat, List.mem_range.mpr (by omega), by omega⟩
/-- script, where, what is left to be drawn from; F draws are allowed at least -/
def Cup (ns : List Int) (F : Nat) (xs : List D) : Prop := ∃ a v : Int, xs = [litD ns, .int a, .int v] ∧ 0 ≤ a ∧ a + (F : Int) ≤ 2 ^ 64
theorem Cup.less {ns : List Int} {F G : Nat} {xs : List D} (h : Cup ns F xs) (l : G ≤ F) : Cup ns G xs := by
  obtain ⟨a, v, e, h0, h1⟩ := h
  exact ⟨a, v, e, h0, by omega⟩
end Hs
namespace Hs
open PySem
class PvAll (ws : List PV) (ds : outParam (List D)) : Prop where e : ws.map PV.asD = ds
instance pvN : PvAll [] [] := ⟨rfl⟩
instance pvD {x : D} {ws : List PV} {ds : List D} [h : PvAll ws ds] : PvAll (.d x :: ws) (x :: ds) := ⟨by rw [List.map_cons, h.e]; rfl⟩
instance pvL {x : List D} {ws : List PV} {ds : List D} [h : PvAll ws ds] : PvAll (.l x :: ws) (.list x :: ds) := ⟨by rw [List.map_cons, h.e]; rfl⟩
instance pvC {x : List (D × D)} {ws : List PV} {ds : List D} [h : PvAll ws ds] : PvAll (.dc x :: ws) (.dict x :: ds) := ⟨by rw [List.map_cons, h.e]; rfl⟩
class Frz (s : S) (s' : outParam S) : Prop where e : frzS s = s'
instance frzN : Frz [] [] := ⟨rfl⟩
theorem frzC {w : SV} {s s' : S} (h : frzS s = s') : frzS (w :: s) = frz1 w :: s' := by rw [← h]; rfl
instance frzNo {s s' : S} [h : Frz s s'] : Frz (.no :: s) (.no :: s') := ⟨frzC h.e⟩
instance frzD {x : D} {s s' : S} [h : Frz s s'] : Frz (.d x :: s) (.d x :: s') := ⟨frzC h.e⟩
instance frzL {x : List D} {s s' : S} [h : Frz s s'] : Frz (.l x :: s) (.d (.list x) :: s') := ⟨frzC h.e⟩
instance frzLL {x : List (List D)} {s s' : S} [h : Frz s s'] : Frz (.ll x :: s) (.d (.list (x.map .list)) :: s') := ⟨frzC h.e⟩
instance frzDc {x : List (D × D)} {s s' : S} [h : Frz s s'] : Frz (.dc x :: s) (.d (.dict x) :: s') := ⟨frzC h.e⟩
instance frzTp {ws : List PV} {ds : List D} {s s' : S} [p : PvAll ws ds] [h : Frz s s'] : Frz (.tp ws :: s) (.d (.tuple ds) :: s') := ⟨by
  rw [← p.e]
  exact frzC h.e⟩
def bindT (rs : List R) (s : S) (k : List SV → S → Prop) : Prop := bindA (List.replicate rs.length true) rs s k
section
variable {s' s'' : S}
variable {nx bk ct : S → Prop} {rt : R → S → Prop} {X xx : XF} {s : S} {a b c e : FE} {t u : FT} {f1 f2 : FS} {Q : R → S → Prop} {P : R → Prop} {i j : Nat} {x y d : D} {v : SV} {g g' : V2} {r : R} {rs : List R}
theorem st_ix2_l {xs : List D} (h : ixD (.list xs) x P) : ixD2 (.list xs) x P := .inl h
theorem st_ix2_t {xs : List D} (h : ixD (.tuple xs) x P) : ixD2 (.tuple xs) x P := .inl h
theorem st_ix2_s {z : Str} (h : ixD (.str z) x P) : ixD2 (.str z) x P := .inl h
theorem st_ix2_lit {ns : List Int} (h : ixD (litD ns) x P) : ixD2 (litD ns) x P := .inl h
theorem st_inK_l {xs : List D} (h : cIn x (.list xs) P) : cInK x (.list xs) P := .inl h
theorem st_inK_t {xs : List D} (h : cIn x (.tuple xs) P) : cInK x (.tuple xs) P := .inl h
theorem st_ninK_l {xs : List D} (h : cNotIn x (.list xs) P) : cNotInK x (.list xs) P := .inl h
theorem st_ninK_t {xs : List D} (h : cNotIn x (.tuple xs) P) : cNotInK x (.tuple xs) P := .inl h
theorem st_setD (h : a xx s fun r s1 => onDc i s1 fun _ => e xx s1 fun rj s2 => frz r s2 fun d s3 => frz rj s3 fun k s4 => onDc i s4 fun kvs => dPut kvs k d fun kvs' => putR i (.own (.dc kvs')) s4 nx) : fSetD i e a ⟨nx, rt, bk, ct, xx⟩ s := h
theorem st_onDc {k : List (D × D) → Prop} {xs : List (D × D)} [e : Get s i (.dc xs)] (h : k xs) : onDc i s k := by unfold onDc; rw [e.e]; exact h
theorem st_dget2 (h : onDc i s fun _ => a X s fun rj s1 => b X s1 fun rx s2 => frz rj s2 fun k s3 => frz rx s3 fun d s4 => onDc i s4 fun kvs => dGet kvs k fun o => Q (.d (o.getD d)) s4) : fDGet2 i a b X s Q := h
theorem st_emT (h : Q (.own (.dc [(.none, .none)])) s) : fEmT X s Q := h
def keyK (d : D) (K : L2.Key → Prop) : Prop := match keyN d with
  | some k' => K k'
  | none => False
theorem st_disp1 (h : a X s fun rk s1 => b X s1 fun rv s2 => frz rk s2 fun kd s3 => frz rv s3 fun d s4 => keyK kd fun k' => Q (.own (.dc [(keyD k', d)])) s4) : fDisp1 a b X s Q := h
theorem st_disp1k {z : Int} {K : L2.Key → Prop} (h : K (.inl z)) : keyK (.int z) K := h
theorem st_range3 {fa : FA} {Q : List D → S → Prop} (h : fa X s fun rs s2 => match rs with
  | [.d (.int i), .d (.int j), .d (.int c)] => c = -1 ∧ lim62 i ∧ lim62 j ∧ Q (downD i (i - j).toNat) s2
  | _ => False) : iRange3 fa X s Q := h
theorem st_bor [f : Frz s s'] (h : a (fun _ _ => False) s' fun r _ => flatR r (Q r s)) : fBor a X s Q := by
  unfold fBor
  rw [f.e]
  exact h
theorem st_borT {Q : Bool → S → Prop} [f : Frz s s'] (h : t (fun _ _ => False) s' fun b _ => Q b s) : fBorT t X s Q := by
  unfold fBorT
  rw [f.e]
  exact h
theorem st_bindT_nil {k : List SV → S → Prop} (h : k [] s) : bindT [] s k := h
theorem st_bindT_d {k : List SV → S → Prop} (h : bindT rs s fun svs s2 => k (.d x :: svs) s2) : bindT (.d x :: rs) s k := h
theorem st_bindT_o {k : List SV → S → Prop} (h : bindT rs s fun svs s2 => k (v :: svs) s2) : bindT (.own v :: rs) s k := h
theorem st_bindT_t {k : List SV → S → Prop} [g : Get s i v] [p : Put s i .no s'] (h : bindT rs s' fun svs s2 => k (v :: svs) s2) : bindT (.top i :: rs) s k := by
  show bindA (List.replicate rs.length true) rs (s.set i .no) (fun svs s2 => k (s.getD i .no :: svs) s2)
  rw [p.e, g.e]
  exact h
theorem st_toPs_nil {k : List PV → Prop} (h : k []) : toPs [] k := h
theorem st_toPs_d {k : List PV → Prop} {r : List SV} (h : toPs r fun ws => k (.d x :: ws)) : toPs (.d x :: r) k := h
theorem st_toPs_l {k : List PV → Prop} {r : List SV} {xs : List D} (h : toPs r fun ws => k (.l xs :: ws)) : toPs (.l xs :: r) k := h
theorem st_toPs_dc {k : List PV → Prop} {r : List SV} {xs : List (D × D)} (h : toPs r fun ws => k (.dc xs :: ws)) : toPs (.dc xs :: r) k := h
theorem st_tupO {fa : FA} (h : fa X s fun rs s1 => bindT rs s1 fun svs s2 => toPs svs fun ws => Q (.own (.tp ws)) s2) : fTupO fa X s Q := h
theorem st_var_tp {ws : List PV} [e : Get s i (.tp ws)] (h : Q (.top i) s) : fVar i X s Q := by unfold fVar; rw [e.e]; exact h
theorem st_frz_own_tp {k : D → S → Prop} {ws : List PV} {ds : List D} [e : PvAll ws ds] (h : k (.tuple ds) s) : frz (.own (.tp ws)) s k := by
  show k (.tuple (ws.map PV.asD)) s
  rw [e.e]; exact h
theorem st_frz_top_tp {k : D → S → Prop} {ws : List PV} {ds : List D} [g : Get s i (.tp ws)] [e : PvAll ws ds] [p : Put s i (.d (.tuple ds)) s'] (h : k (.tuple ds) s') : frz (.top i) s k := frz_top' (x := .tuple ds) (by rw [g.e]; show some (PyData.tuple (ws.map PV.asD)) = _; rw [e.e]) (by rw [p.e]; exact h)
theorem st_onP {k : Nat} {kk : List PV → List D → Prop} {ws : List PV} {xs : List D} [g : Get s i (.tp ws)] (e : ws[k]? = some (.l xs)) (h : kk ws xs) : onP i k s kk := by
  unfold onP
  rw [g.e]
  dsimp only
  rw [e]
  exact h
theorem st_lmP {k : Nat} {g : LM} {fa : FA} (h : onP i k s fun _ _ => fa X s fun rs s1 => frzAll rs s1 fun ds s2 => onP i k s2 fun ws xs => g xs ds fun d xs' => putR i (.own (.tp (ws.set k (.l xs')))) s2 fun s3 => Q (.d d) s3) : fLmP i k g fa X s Q := h
theorem st_flat_b {P : Prop} {z : Bool} (h : P) : flatR (.d (.bool z)) P := ⟨rfl, h⟩
theorem st_flat_i {P : Prop} {z : Int} (h : P) : flatR (.d (.int z)) P := ⟨rfl, h⟩
end
structure DIs (kvs : List (D × D)) (f : Int → Option D) : Prop where
  key : ∀ p ∈ kvs, ∃ i : Int, p.1 = .int i
  get : ∀ i : Int, (kvs.find? fun p => sameN p.1 (.inl i)).map (·.2) = f i
theorem DIs.nil : DIs [] fun _ => none := ⟨fun p hp => (nomatch hp), fun i => rfl⟩
theorem DIs.one (k : Int) (x : D) : DIs [(keyD (.inl k), x)] fun i => if i = k then some x else none := by
  refine ⟨fun p hp => ?_, fun i => ?_⟩
  · rw [List.mem_singleton] at hp
    exact ⟨k, by rw [hp]; rfl⟩
  · rw [List.find?_cons]
    dsimp only
    rw [sameN_keyD]
    by_cases h : i = k
    · subst h
      simp
    · rw [decide_eq_false (fun e => h (Sum.inl.inj e).symm), if_neg h]
      rfl
theorem find_repl {k : L2.Key} {x : D} (j : L2.Key) : ∀ kvs : List (D × D), ((kvs.map fun p => if sameN p.1 k = true then (p.1, x) else p).find? fun p => sameN p.1 j).map (·.2) = if j = k then ((kvs.find? fun p => sameN p.1 j).map fun _ => x) else (kvs.find? fun p => sameN p.1 j).map (·.2)
  | [] => by simp
  | p :: r => by
    have ih := find_repl (k := k) (x := x) j r
    rw [List.map_cons, List.find?_cons, List.find?_cons]
    have e1 : (if sameN p.1 k = true then (p.1, x) else p).1 = p.1 := by split <;> rfl
    rw [e1]
    cases hs : sameN p.1 j with
    | false => exact ih
    | true =>
      by_cases h : j = k
      · subst h
        rw [if_pos rfl, if_pos hs]; rfl
      · have : ¬ sameN p.1 k = true := fun h2 => by
          unfold sameN at hs h2
          have h3 := of_decide_eq_true hs
          have h4 := of_decide_eq_true h2
          rw [h3] at h4
          exact h (Option.some.inj h4)
        rw [if_neg h, if_neg this]
theorem find_snoc {k : L2.Key} {x : D} (j : L2.Key) : ∀ kvs : List (D × D), (kvs.any fun p => sameN p.1 k) = false → ((kvs ++ [(keyD k, x)]).find? fun p => sameN p.1 j).map (·.2) = if j = k then some x else (kvs.find? fun p => sameN p.1 j).map (·.2)
  | [], _ => by
    rw [List.nil_append, List.find?_cons]
    dsimp only
    rw [sameN_keyD]
    by_cases h : j = k
    · subst h; simp
    · rw [decide_eq_false (fun e => h e.symm), if_neg h]
  | p :: r, ha => by
    rw [List.any_cons, Bool.or_eq_false_iff] at ha
    have ih := find_snoc (k := k) (x := x) j r ha.2
    rw [List.cons_append, List.find?_cons, List.find?_cons]
    cases hs : sameN p.1 j with
    | false => exact ih
    | true =>
      have : ¬ j = k := fun h => by rw [h] at hs; rw [hs] at ha; cases ha.1
      rw [if_neg this]
theorem find_any {k : L2.Key} : ∀ kvs : List (D × D), (kvs.any fun p => sameN p.1 k) = true → ((kvs.find? fun p => sameN p.1 k)).isSome = true
  | [], h => by cases h
  | p :: r, h => by
    rw [List.find?_cons]
    cases hs : sameN p.1 k with
    | true => rfl
    | false =>
      rw [List.any_cons, hs] at h
      exact find_any r h
theorem DIs.put {kvs : List (D × D)} {f : Int → Option D} (h : DIs kvs f) (k : Int) (x : D) : DIs (putN kvs (.inl k) x) fun i => if i = k then some x else f i := by
  unfold putN
  split
  · rename_i ha
    refine ⟨fun p hp => ?_, fun i => ?_⟩
    · obtain ⟨q, hq, rfl⟩ := List.mem_map.mp hp
      obtain ⟨j, e⟩ := h.key q hq
      refine ⟨j, ?_⟩
      split <;> exact e
    · rw [find_repl]
      by_cases hi : i = k
      · subst hi
        rw [if_pos rfl, if_pos rfl]
        have := find_any kvs ha
        cases e : kvs.find? (fun p => sameN p.1 (.inl i)) with
        | none => rw [e] at this; cases this
        | some q => rfl
      · rw [if_neg (fun e => hi (Sum.inl.inj e)), if_neg hi]
        exact h.get i
  · rename_i ha
    have ha : (kvs.any fun p => sameN p.1 (.inl k)) = false := by simpa using ha
    refine ⟨fun p hp => ?_, fun i => ?_⟩
    · rcases List.mem_append.mp hp with hp | hp
      · exact h.key p hp
      · rw [List.mem_singleton] at hp
        exact ⟨k, by rw [hp]; rfl⟩
    · rw [find_snoc _ _ ha]
      by_cases hi : i = k
      · subst hi; rw [if_pos rfl, if_pos rfl]
      · rw [if_neg (fun e => hi (Sum.inl.inj e)), if_neg hi]
        exact h.get i
end Hs
namespace Lk48
open PySem PySem.Spec PyProof.Rows L2 Hs
def b__law_e_moved : FS := fSeq (fAsg 2 (fLst (fNil)))
    (fSeq (fFor (iSeq (fOp ixD (fVar 0) (fC (.int 1)))) (gTp [gNm 3, gNm 4]) [3, 4] (fDrop (fLm 2 mAppend (fCons (fTup (fCons (fBlt bMin2 (fCons (fOp ixD (fVar 1) (fVar 3)) (fCons (fOp ixD (fVar 1) (fVar 4)) (fNil)))) (fCons (fBlt bMax2 (fCons (fOp ixD (fVar 1) (fVar 3)) (fCons (fOp ixD (fVar 1) (fVar 4)) (fNil)))) (fNil)))) (fNil)))))
    (fRet (fTup (fCons (fOp ixD (fVar 0) (fC (.int 0))) (fCons (fBlt bTuple (fCons (fBlt bSorted (fCons (fVar 2) (fNil))) (fNil))) (fNil))))))
def m__law_e_moved : FSem := semOf 2 5 b__law_e_moved
def b__law_e_stir : FS := fSeq (fIfS (fB (fOp cGe (fVar 0) (fC (.int 1000000000000000000)))) (fRet (fVar 0)) (fNext))
    (fSeq (fAsg 2 (fOp opMod (fOp opAdd (fOp opAdd (fOp opMul (fOp opMod (fVar 0) (fC (.int 2147483549))) (fC (.int 31337))) (fOp opMul (fVar 1) (fC (.int 26171)))) (fC (.int 59))) (fC (.int 2147483543))))
    (fSeq (fAsg 3 (fOp opMod (fOp opAdd (fOp opAdd (fOp opAdd (fOp opMul (fVar 2) (fVar 2)) (fOp opMul (fOp opMul (fC (.int 419)) (fVar 1)) (fVar 1))) (fOp opMul (fC (.int 7)) (fVar 2))) (fC (.int 3))) (fC (.int 2147483497))))
    (fSeq (fAsg 4 (fOp opMod (fOp opAdd (fOp opAdd (fOp opAdd (fOp opMul (fVar 3) (fVar 3)) (fOp opMul (fC (.int 877)) (fVar 3))) (fVar 2)) (fVar 1)) (fC (.int 2147483489))))
    (fRet (fOp opAdd (fOp opMul (fVar 3) (fC (.int 2147483489))) (fVar 4))))))
def m__law_e_stir : FSem := semOf 2 5 b__law_e_stir
def b__law_e_dip : FS := fSeq (fIfS (fB (fOp cLt (fOp ixD (fVar 0) (fC (.int 2))) (fVar 1))) (fSeq (fAsg 2 (fOp ixD (fVar 0) (fC (.int 1))))
    (fSeq (fAsg 3 (fOp opAdd (fOp opMul (fC (.int 11)) (fVar 2)) (fC (.int 5))))
    (fSeq (fIfS (fB (fOp cLt (fVar 2) (fBlt bLen (fCons (fOp ixD (fVar 0) (fC (.int 0))) (fNil))))) (fAsg 3 (fOp ixD (fOp ixD (fVar 0) (fC (.int 0))) (fVar 2))) (fIfS (fB (fOp cGt (fBlt bLen (fCons (fOp ixD (fVar 0) (fC (.int 0))) (fNil))) (fC (.int 0)))) (fAsg 3 (fOp opAdd (fOp opMod (fOp ixD (fOp ixD (fVar 0) (fC (.int 0))) (fOp opMod (fOp opAdd (fOp opMul (fC (.int 5)) (fVar 2)) (fC (.int 2))) (fBlt bLen (fCons (fOp ixD (fVar 0) (fC (.int 0))) (fNil))))) (fC (.int 777777769))) (fOp opMul (fVar 2) (fC (.int 5000011))))) (fNext)))
    (fSeq (fSetIx 0 (fC (.int 1)) (fOp opAdd (fVar 2) (fC (.int 1))))
    (fSetIx 0 (fC (.int 2)) (fCall m__law_e_stir [false, false] (fCons (fVar 3) (fCons (fVar 2) (fNil))))))))) (fNext))
    (fSeq (fAsg 4 (fOp opMod (fOp ixD (fVar 0) (fC (.int 2))) (fVar 1)))
    (fSeq (fSetIx 0 (fC (.int 2)) (fOp opFdiv (fOp ixD (fVar 0) (fC (.int 2))) (fVar 1)))
    (fRet (fVar 4))))
def m__law_e_dip : FSem := semOf 2 5 b__law_e_dip
def b__law_e_order : FS := fSeq (fAsg 2 (fRg1 mkL (fVar 1)))
    (fRet (fBlt bTuple (fCons (fLc (iRange1 (fCons (fVar 1) (fNil))) (gNm 3) [3] (fYes) (fLm 2 mPopAt (fCons (fCall m__law_e_dip [true, false] (fCons (fVar 0) (fCons (fBlt bLen (fCons (fVar 2) (fNil))) (fNil)))) (fNil)))) (fNil))))
def m__law_e_order : FSem := semOf 2 4 b__law_e_order
def b__law_e_round_web : FS := fSeq (fAsg 2 (fLc (iRange2 (fCons (fC (.int 1)) (fCons (fOp opAdd (fOp opFdiv (fVar 1) (fC (.int 2))) (fC (.int 1))) (fNil)))) (gNm 3) [3] (fB (fOp cEq (fCall m__law_e_dip [true, false] (fCons (fVar 0) (fCons (fC (.int 2)) (fNil)))) (fC (.int 0)))) (fVar 3)))
    (fSeq (fAsg 4 (fLst (fNil)))
    (fSeq (fFor (iRange1 (fCons (fVar 1) (fNil))) (gNm 5) [5, 6] (fFor (iRange2 (fCons (fOp opAdd (fVar 5) (fC (.int 1))) (fCons (fVar 1) (fNil)))) (gNm 6) [6] (fIfS (fB (fOp cIn (fBlt bMin2 (fCons (fOp opSub (fVar 6) (fVar 5)) (fCons (fOp opAdd (fOp opSub (fVar 1) (fVar 6)) (fVar 5)) (fNil)))) (fVar 2))) (fDrop (fLm 4 mAppend (fCons (fTup (fCons (fVar 5) (fCons (fVar 6) (fNil)))) (fNil)))) (fNext))))
    (fRet (fCall m__law_e_moved [false, false] (fCons (fTup (fCons (fVar 1) (fCons (fBlt bTuple (fCons (fVar 4) (fNil))) (fNil)))) (fCons (fCall m__law_e_order [true, false] (fCons (fVar 0) (fCons (fVar 1) (fNil)))) (fNil)))))))
def m__law_e_round_web : FSem := semOf 2 7 b__law_e_round_web
def b__law_e_web_of : FS := fSeq (fAsg 2 (fCall m__law_e_dip [true, false] (fCons (fVar 0) (fCons (fC (.int 7)) (fNil)))))
    (fSeq (fAsg 3 (fLst (fNil)))
    (fSeq (fFor (iRange1 (fCons (fVar 1) (fNil))) (gNm 4) [4, 5] (fFor (iRange2 (fCons (fOp opAdd (fVar 4) (fC (.int 1))) (fCons (fVar 1) (fNil)))) (gNm 5) [5] (fIfS (fB (fOp cLt (fCall m__law_e_dip [true, false] (fCons (fVar 0) (fCons (fC (.int 6)) (fNil)))) (fVar 2))) (fDrop (fLm 3 mAppend (fCons (fTup (fCons (fVar 4) (fCons (fVar 5) (fNil)))) (fNil)))) (fNext))))
    (fRet (fTup (fCons (fVar 1) (fCons (fBlt bTuple (fCons (fVar 3) (fNil))) (fNil)))))))
def m__law_e_web_of : FSem := semOf 2 6 b__law_e_web_of
def b__law_e_web : FS := fSeq (fAsg 2 (fCall m__law_e_dip [true, false] (fCons (fVar 0) (fCons (fOp opAdd (fVar 1) (fC (.int 1))) (fNil)))))
    (fRet (fCall m__law_e_web_of [true, false] (fCons (fVar 0) (fCons (fVar 2) (fNil)))))
def m__law_e_web : FSem := semOf 2 3 b__law_e_web
def b__law_e_bent : FS := fSeq (fAsg 2 (fCall m__law_e_dip [true, false] (fCons (fVar 0) (fCons (fOp ixD (fVar 1) (fC (.int 0))) (fNil)))))
    (fSeq (fAsg 3 (fOp opMod (fOp opAdd (fOp opAdd (fVar 2) (fC (.int 1))) (fCall m__law_e_dip [true, false] (fCons (fVar 0) (fCons (fOp opSub (fOp ixD (fVar 1) (fC (.int 0))) (fC (.int 1))) (fNil))))) (fOp ixD (fVar 1) (fC (.int 0)))))
    (fSeq (fAsg 4 (fTup (fCons (fBlt bMin2 (fCons (fVar 2) (fCons (fVar 3) (fNil)))) (fCons (fBlt bMax2 (fCons (fVar 2) (fCons (fVar 3) (fNil)))) (fNil)))))
    (fSeq (fIfS (fB (fOp cIn (fVar 4) (fOp ixD (fVar 1) (fC (.int 1))))) (fRet (fTup (fCons (fOp ixD (fVar 1) (fC (.int 0))) (fCons (fBlt bTuple (fCons (fLc (iSeq (fOp ixD (fVar 1) (fC (.int 1)))) (gNm 5) [5] (fB (fOp cNe (fVar 5) (fVar 4))) (fVar 5)) (fNil))) (fNil))))) (fNext))
    (fRet (fTup (fCons (fOp ixD (fVar 1) (fC (.int 0))) (fCons (fBlt bTuple (fCons (fBlt bSorted (fCons (fOp opAdd (fOp ixD (fVar 1) (fC (.int 1))) (fTup (fCons (fVar 4) (fNil)))) (fNil))) (fNil))) (fNil))))))))
def m__law_e_bent : FSem := semOf 2 6 b__law_e_bent
def b__law_e_side_by_side : FS := fSeq (fAsg 2 (fLc (iSeq (fOp ixD (fVar 1) (fC (.int 1)))) (gTp [gNm 3, gNm 4]) [3, 4] (fYes) (fTup (fCons (fOp opAdd (fVar 3) (fOp ixD (fVar 0) (fC (.int 0)))) (fCons (fOp opAdd (fVar 4) (fOp ixD (fVar 0) (fC (.int 0)))) (fNil))))))
    (fRet (fTup (fCons (fOp opAdd (fOp ixD (fVar 0) (fC (.int 0))) (fOp ixD (fVar 1) (fC (.int 0)))) (fCons (fBlt bTuple (fCons (fOp opAdd (fBlt bList (fCons (fOp ixD (fVar 0) (fC (.int 1))) (fNil))) (fVar 2)) (fNil))) (fNil)))))
def m__law_e_side_by_side : FSem := semOf 2 5 b__law_e_side_by_side
def b__law_e_ring_of : FS := fRet (fTup (fCons (fVar 0) (fCons (fBlt bTuple (fCons (fBlt bSorted (fCons (fOp opAdd (fLst (fCons (fTup (fCons (fC (.int 0)) (fCons (fOp opSub (fVar 0) (fC (.int 1))) (fNil)))) (fNil))) (fLc (iRange1 (fCons (fOp opSub (fVar 0) (fC (.int 1))) (fNil))) (gNm 1) [1] (fYes) (fTup (fCons (fVar 1) (fCons (fOp opAdd (fVar 1) (fC (.int 1))) (fNil)))))) (fNil))) (fNil))) (fNil))))
def m__law_e_ring_of : FSem := semOf 1 2 b__law_e_ring_of
def b__law_e_two_rings : FS := fSeq (fAsg 1 (fOp opAdd (fC (.int 3)) (fCall m__law_e_dip [true, false] (fCons (fVar 0) (fCons (fC (.int 2)) (fNil))))))
    (fRet (fCall m__law_e_side_by_side [false, false] (fCons (fCall m__law_e_ring_of [false] (fCons (fVar 1) (fNil))) (fCons (fCall m__law_e_ring_of [false] (fCons (fOp opAdd (fOp opAdd (fVar 1) (fC (.int 1))) (fCall m__law_e_dip [true, false] (fCons (fVar 0) (fCons (fOp opSub (fC (.int 10)) (fOp opMul (fC (.int 2)) (fVar 1))) (fNil))))) (fNil))) (fNil)))))
def m__law_e_two_rings : FSem := semOf 1 2 b__law_e_two_rings
def b__law_e_tied : FS := fRet (fOp cIn (fTup (fCons (fBlt bMin2 (fCons (fVar 1) (fCons (fVar 2) (fNil)))) (fCons (fBlt bMax2 (fCons (fVar 1) (fCons (fVar 2) (fNil)))) (fNil)))) (fOp ixD (fVar 0) (fC (.int 1))))
def m__law_e_tied : FSem := semOf 3 3 b__law_e_tied
def b__law_e_tied_across : FS := fSeq (fAsg 2 (fCall m__law_e_ring_of [false] (fCons (fVar 1) (fNil))))
    (fSeq (fAsg 3 (fRg1 mkL (fVar 1)))
    (fSeq (fAsg 4 (fLst (fNil)))
    (fSeq (fWhile [5, 6, 7] (fB (fOp cGt (fBlt bLen (fCons (fVar 3) (fNil))) (fC (.int 1)))) (fSeq (fAsg 5 (fLm 3 mPopAt (fCons (fC (.int 0)) (fNil))))
    (fSeq (fAsg 6 (fBor (fLc (iSeq (fVar 3)) (gNm 7) [7] (fNot (fB (fCall m__law_e_tied [false, false, false] (fCons (fVar 2) (fCons (fVar 5) (fCons (fVar 7) (fNil))))))) (fVar 7))))
    (fIfS (fB (fOp cNe (fVar 6) (fLst (fNil)))) (fSeq (fDrop (fLm 4 mAppend (fCons (fTup (fCons (fVar 5) (fCons (fOp ixD (fVar 6) (fCall m__law_e_dip [true, false] (fCons (fVar 0) (fCons (fBlt bLen (fCons (fVar 6) (fNil))) (fNil))))) (fNil)))) (fNil))))
    (fDrop (fLm 3 mRemove (fCons (fOp ixD (fOp ixD (fVar 4) (fUn uNeg (fC (.int 1)))) (fC (.int 1))) (fNil))))) (fNext)))))
    (fRet (fTup (fCons (fVar 1) (fCons (fBlt bTuple (fCons (fBlt bSorted (fCons (fOp opAdd (fBlt bList (fCons (fOp ixD (fVar 2) (fC (.int 1))) (fNil))) (fVar 4)) (fNil))) (fNil))) (fNil))))))))
def m__law_e_tied_across : FSem := semOf 2 8 b__law_e_tied_across
def b__law_e_turned_on (F : FSem) : FS := fSeq (fIfS (fB (fOp cEq (fBlt bLen (fCons (fVar 1) (fNil))) (fOp ixD (fVar 0) (fC (.int 0))))) (fSeq (fDrop (fLm 3 mAppend (fCons (fVar 1) (fNil))))
    (fRetN)) (fNext))
    (fSeq (fAsg 4 (fBlt bLen (fCons (fVar 1) (fNil))))
    (fFor (iRange1 (fCons (fOp ixD (fVar 0) (fC (.int 0))) (fNil))) (gNm 5) [5, 6] (fIfS (fAnd (fB (fOp cNotIn (fVar 5) (fVar 1))) (fB (fOp cLe (fBlt bLen (fCons (fVar 3) (fNil))) (fVar 2)))) (fIfS (fB (fBlt bAll (fCons (fLc (iRange1 (fCons (fVar 4) (fNil))) (gNm 6) [6] (fYes) (fOp cEq (fCall m__law_e_tied [false, false, false] (fCons (fVar 0) (fCons (fVar 6) (fCons (fVar 4) (fNil))))) (fCall m__law_e_tied [false, false, false] (fCons (fVar 0) (fCons (fOp ixD (fVar 1) (fVar 6)) (fCons (fVar 5) (fNil))))))) (fNil)))) (fDrop (fCall F [false, false, false, true] (fCons (fVar 0) (fCons (fOp opAdd (fVar 1) (fTup (fCons (fVar 5) (fNil)))) (fCons (fVar 2) (fCons (fVar 3) (fNil))))))) (fNext)) (fNext))))
def m__law_e_turned_on : Nat → FSem
  | 0 => fun _ _ _ => False
  | n + 1 => semOf 4 7 (b__law_e_turned_on (m__law_e_turned_on n))
def b__law_e_is_alike : FS := fSeq (fAsg 1 (fLc (iRange1 (fCons (fOp ixD (fVar 0) (fC (.int 0))) (fNil))) (gNm 3) [3] (fYes) (fBlt bLen (fCons (fLc (iSeq (fOp ixD (fVar 0) (fC (.int 1)))) (gNm 2) [2] (fB (fOp cIn (fVar 3) (fVar 2))) (fVar 2)) (fNil)))))
    (fSeq (fIfS (fB (fOp cGt (fBlt bLenSet (fCons (fVar 1) (fNil))) (fC (.int 1)))) (fRet (fC (.bool false))) (fNext))
    (fSeq (fFor (iRange2 (fCons (fC (.int 1)) (fCons (fOp ixD (fVar 0) (fC (.int 0))) (fNil)))) (gNm 3) [3, 4] (fSeq (fAsg 4 (fLst (fNil)))
    (fSeq (fDrop (fCall (m__law_e_turned_on 16) [false, false, false, true] (fCons (fVar 0) (fCons (fTup (fCons (fVar 3) (fNil))) (fCons (fC (.int 0)) (fCons (fVar 4) (fNil)))))))
    (fIfS (fB (fOp cEq (fVar 4) (fLst (fNil)))) (fRet (fC (.bool false))) (fNext)))))
    (fRet (fC (.bool true)))))
def m__law_e_is_alike : FSem := semOf 1 5 b__law_e_is_alike
def b_is_whole : FS := fRet (fAndV (fUn (bIs "int") (fVar 0)) (fNotV (fUn (bIs "bool") (fVar 0))))
def m_is_whole : FSem := semOf 1 1 b_is_whole
def b_is_below : FS := fRet (fAndV (fCall m_is_whole [false] (fCons (fVar 0) (fNil))) (fChain cLe cLt (fC (.int 0)) (fVar 0) (fVar 1)))
def m_is_below : FSem := semOf 2 2 b_is_below
def b_is_rising : FS := fRet (fBlt bAll (fCons (fLc (iRange1 (fCons (fOp opSub (fBlt bLen (fCons (fVar 0) (fNil))) (fC (.int 1))) (fNil))) (gNm 1) [1] (fYes) (fOp cLt (fOp ixD (fVar 0) (fVar 1)) (fOp ixD (fVar 0) (fOp opAdd (fVar 1) (fC (.int 1)))))) (fNil)))
def m_is_rising : FSem := semOf 1 2 b_is_rising
def b_is_tie : FS := fSeq (fIfS (fOr (fNot (fB (fUn (bIs "tuple") (fVar 1)))) (fB (fOp cNe (fBlt bLen (fCons (fVar 1) (fNil))) (fC (.int 2))))) (fRet (fC (.bool false))) (fNext))
    (fRet (fAndV (fCall m_is_below [false, false] (fCons (fOp ixD (fVar 1) (fC (.int 0))) (fCons (fVar 0) (fNil)))) (fAndV (fCall m_is_below [false, false] (fCons (fOp ixD (fVar 1) (fC (.int 1))) (fCons (fVar 0) (fNil)))) (fOp cLt (fOp ixD (fVar 1) (fC (.int 0))) (fOp ixD (fVar 1) (fC (.int 1)))))))
def m_is_tie : FSem := semOf 2 2 b_is_tie
def b_are_ties : FS := fSeq (fIfS (fOr (fNot (fB (fUn (bIs "tuple") (fVar 1)))) (fNot (fB (fBlt bAll (fCons (fLc (iSeq (fVar 1)) (gNm 2) [2] (fYes) (fCall m_is_tie [false, false] (fCons (fVar 0) (fCons (fVar 2) (fNil))))) (fNil)))))) (fRet (fC (.bool false))) (fNext))
    (fRet (fCall m_is_rising [false] (fCons (fVar 1) (fNil))))
def m_are_ties : FSem := semOf 2 3 b_are_ties
def b_is_web : FS := fSeq (fIfS (fOr (fNot (fB (fUn (bIs "tuple") (fVar 0)))) (fB (fOp cNe (fBlt bLen (fCons (fVar 0) (fNil))) (fC (.int 2))))) (fRet (fC (.bool false))) (fNext))
    (fRet (fAndV (fCall m_is_below [false, false] (fCons (fOp ixD (fVar 0) (fC (.int 0))) (fCons (fOp opAdd (fC (.int 10)) (fC (.int 1))) (fNil)))) (fCall m_are_ties [false, false] (fCons (fOp ixD (fVar 0) (fC (.int 0))) (fCons (fOp ixD (fVar 0) (fC (.int 1))) (fNil))))))
def m_is_web : FSem := semOf 1 1 b_is_web
def b_need_web : FS := fIfS (fNot (fB (fCall m_is_web [false] (fCons (fVar 0) (fNil))))) (fRaise "NoWeb") (fNext)
def m_need_web : FSem := semOf 1 1 b_need_web
def b_may_turn : FS := fSeq (fAsg 3 (fBlt bLen (fCons (fVar 1) (fNil))))
    (fSeq (fIfS (fOr (fB (fOp cIn (fVar 2) (fVar 1))) (fB (fOp cNe (fMt gCountB (fOp ixD (fVar 0) (fVar 2)) (fCons (fC (.bool true)) (fNil))) (fMt gCountB (fOp ixD (fVar 0) (fVar 3)) (fCons (fC (.bool true)) (fNil)))))) (fRet (fC (.bool false))) (fNext))
    (fRet (fBlt bAll (fCons (fLc (iEnumL (fCons (fVar 1) fNil)) (gTp [gNm 4, gNm 5]) [4, 5] (fYes) (fOp cEq (fOp ixD (fOp ixD (fVar 0) (fVar 4)) (fVar 3)) (fOp ixD (fOp ixD (fVar 0) (fVar 5)) (fVar 2)))) (fNil)))))
def m_may_turn : FSem := semOf 3 6 b_may_turn
def b_go_on (F : FSem) : FS := fSeq (fIfS (fB (fOp cEq (fBlt bLen (fCons (fVar 1) (fNil))) (fBlt bLen (fCons (fVar 0) (fNil))))) (fSeq (fDrop (fLm 3 mAppend (fCons (fVar 1) (fNil))))
    (fRetN)) (fNext))
    (fFor (iRange1 (fCons (fBlt bLen (fCons (fVar 0) (fNil))) (fNil))) (gNm 4) [4] (fIfS (fAnd (fB (fOp cLe (fBlt bLen (fCons (fVar 3) (fNil))) (fVar 2))) (fB (fCall m_may_turn [false, false, false] (fCons (fVar 0) (fCons (fVar 1) (fCons (fVar 4) (fNil))))))) (fDrop (fCall F [false, false, false, true] (fCons (fVar 0) (fCons (fOp opAdd (fVar 1) (fTup (fCons (fVar 4) (fNil)))) (fCons (fVar 2) (fCons (fVar 3) (fNil))))))) (fNext)))
def m_go_on : Nat → FSem
  | 0 => fun _ _ _ => False
  | n + 1 => semOf 4 5 (b_go_on (m_go_on n))
def b_all_places : FS := fRet (fRg1 mkT (fOp ixD (fVar 0) (fC (.int 0))))
def m_all_places : FSem := semOf 1 1 b_all_places
def b_rows_of : FS := fSeq (fAsg 1 (fLcL (iSeq (fCall m_all_places [false] (fCons (fVar 0) (fNil)))) (gNm 2) [2] (fYes) (fOp opMul (fLst (fCons (fC (.bool false)) (fNil))) (fOp ixD (fVar 0) (fC (.int 0))))))
    (fSeq (fFor (iSeq (fOp ixD (fVar 0) (fC (.int 1)))) (gTp [gNm 3, gNm 4]) [3, 4] (fSeq (fSetLL 1 3 4 (fC (.bool true)))
    (fSetLL 1 4 3 (fC (.bool true)))))
    (fRet (fVar 1)))
def m_rows_of : FSem := semOf 1 5 b_rows_of
def b_turnings_in : FS := fSeq (fAsg 3 (fLst (fNil)))
    (fSeq (fDrop (fCall (m_go_on 16) [false, false, false, true] (fCons (fCall m_rows_of [false] (fCons (fVar 0) (fNil))) (fCons (fVar 1) (fCons (fVar 2) (fCons (fVar 3) (fNil)))))))
    (fRet (fVar 3)))
def m_turnings_in : FSem := semOf 3 4 b_turnings_in
def b_is_alike_in : FS := fSeq (fFor (iRange2 (fCons (fC (.int 1)) (fCons (fOp ixD (fVar 0) (fC (.int 0))) (fNil)))) (gNm 1) [1] (fIfS (fOr (fNot (fB (fCall m_may_turn [false, false, false] (fCons (fCall m_rows_of [false] (fCons (fVar 0) (fNil))) (fCons (fTup (fNil)) (fCons (fVar 1) (fNil))))))) (fB (fOp cEq (fCall m_turnings_in [false, false, false] (fCons (fVar 0) (fCons (fTup (fCons (fVar 1) (fNil))) (fCons (fC (.int 0)) (fNil))))) (fLst (fNil))))) (fRet (fC (.bool false))) (fNext)))
    (fRet (fC (.bool true)))
def m_is_alike_in : FSem := semOf 1 2 b_is_alike_in
def b_is_alike : FS := fSeq (fDrop (fCall m_need_web [false] (fCons (fVar 0) (fNil))))
    (fRet (fCall m_is_alike_in [false] (fCons (fVar 0) (fNil))))
def m_is_alike : FSem := semOf 1 1 b_is_alike
def b_divisor : FS := fSeq (fAsg 0 (fBlt bAbs (fCons (fVar 0) (fNil))))
    (fSeq (fAsg 1 (fBlt bAbs (fCons (fVar 1) (fNil))))
    (fSeq (fWhile [] (fB (fOp cGt (fVar 1) (fC (.int 0)))) (fPar 0 1 (fCons (fVar 1) (fCons (fOp opMod (fVar 0) (fVar 1)) (fNil)))))
    (fRet (fVar 0))))
def m_divisor : FSem := semOf 2 2 b_divisor
def b_lowest : FS := fSeq (fAsg 2 (fCall m_divisor [false, false] (fCons (fVar 0) (fCons (fVar 1) (fNil)))))
    (fRet (fTup (fCons (fOp opFdiv (fVar 0) (fVar 2)) (fCons (fOp opFdiv (fVar 1) (fVar 2)) (fNil)))))
def m_lowest : FSem := semOf 2 3 b_lowest
def b_first_greatest : FS := fSeq (fAsg 1 (fBlt bMaxL (fCons (fLc (iSeq (fVar 0)) (gNm 2) [2] (fYes) (fBlt bLen (fCons (fVar 2) (fNil)))) (fNil))))
    (fRet (fOp ixD (fLc (iSeq (fVar 0)) (gNm 2) [2] (fB (fOp cEq (fBlt bLen (fCons (fVar 2) (fNil))) (fVar 1))) (fVar 2)) (fC (.int 0))))
def m_first_greatest : FSem := semOf 1 3 b_first_greatest
def b_full_from (F : FSem) : FS := fSeq (fIfS (fAnd (fB (fOp cEq (fVar 3) (fLst (fNil)))) (fB (fOp cEq (fVar 4) (fLst (fNil))))) (fRet (fLst (fCons (fVar 2) (fNil)))) (fNext))
    (fSeq (fAsg 5 (fLst (fNil)))
    (fSeq (fFor (iEnumL (fCons (fVar 3) fNil)) (gTp [gNm 6, gNm 7]) [6, 7, 8, 9, 10] (fSeq (fAsg 8 (fLc (iSeq (fSl slD (fVar 3) (fPart (fOp opAdd (fVar 6) (fC (.int 1)))) (fNoPart))) (gNm 9) [9] (fB (fOp cEq (fOp ixD (fOp ixD (fVar 0) (fVar 7)) (fVar 9)) (fVar 1))) (fVar 9)))
    (fSeq (fAsg 10 (fLc (iSeq (fOp opAdd (fVar 4) (fSl slD (fVar 3) (fNoPart) (fPart (fVar 6))))) (gNm 9) [9] (fB (fOp cEq (fOp ixD (fOp ixD (fVar 0) (fVar 7)) (fVar 9)) (fVar 1))) (fVar 9)))
    (fDrop (fLm 5 mExtend (fCons (fCall F [false, false, false, false, false] (fCons (fVar 0) (fCons (fVar 1) (fCons (fOp opAdd (fVar 2) (fTup (fCons (fVar 7) (fNil)))) (fCons (fVar 8) (fCons (fVar 10) (fNil))))))) (fNil)))))))
    (fRet (fVar 5))))
def m_full_from : Nat → FSem
  | 0 => fun _ _ _ => False
  | n + 1 => semOf 5 11 (b_full_from (m_full_from n))
def b_full_apart_in : FS := fRet (fBlt bSorted (fCons (fCall (m_full_from 16) [false, false, false, false, false] (fCons (fCall m_rows_of [false] (fCons (fVar 0) (fNil))) (fCons (fC (.bool false)) (fCons (fTup (fNil)) (fCons (fBlt bList (fCons (fCall m_all_places [false] (fCons (fVar 0) (fNil))) (fNil))) (fCons (fLst (fNil)) (fNil))))))) (fNil)))
def m_full_apart_in : FSem := semOf 1 1 b_full_apart_in
def b_greatest_apart_in : FS := fRet (fCall m_first_greatest [false] (fCons (fCall m_full_apart_in [false] (fCons (fVar 0) (fNil))) (fNil)))
def m_greatest_apart_in : FSem := semOf 1 1 b_greatest_apart_in
def b_alike_value : FS := fSeq (fDrop (fCall m_need_web [false] (fCons (fVar 0) (fNil))))
    (fSeq (fIfS (fNot (fB (fCall m_is_alike_in [false] (fCons (fVar 0) (fNil))))) (fRet (fC .none)) (fNext))
    (fSeq (fIfS (fB (fOp cEq (fOp ixD (fVar 0) (fC (.int 0))) (fC (.int 0)))) (fRet (fTup (fCons (fC (.int 0)) (fCons (fC (.int 1)) (fNil))))) (fNext))
    (fRet (fCall m_lowest [false, false] (fCons (fOp ixD (fVar 0) (fC (.int 0))) (fCons (fBlt bLen (fCons (fCall m_greatest_apart_in [false] (fCons (fVar 0) (fNil))) (fNil))) (fNil)))))))
def m_alike_value : FSem := semOf 1 1 b_alike_value
def b__law_e_part : FS := fSeq (fPar 2 3 (fCons (fVar 0) (fCons (fVar 1) (fNil))))
    (fSeq (fWhile [] (fB (fOp cNe (fVar 3) (fC (.int 0)))) (fPar 2 3 (fCons (fVar 3) (fCons (fOp opMod (fVar 2) (fVar 3)) (fNil)))))
    (fRet (fTup (fCons (fOp opFdiv (fVar 0) (fVar 2)) (fCons (fOp opFdiv (fVar 1) (fVar 2)) (fNil))))))
def m__law_e_part : FSem := semOf 2 4 b__law_e_part
def b__law_e_apart_sets : FS := fSeq (fAsg 2 (fLst (fCons (fTup (fNil)) (fNil))))
    (fSeq (fFor (iSeq (fVar 1)) (gNm 3) [3, 4, 5, 6] (fSeq (fAsg 4 (fLc (iSeq (fVar 2)) (gNm 5) [5] (fNot (fB (fBlt bAny (fCons (fLc (iSeq (fVar 5)) (gNm 6) [6] (fYes) (fCall m__law_e_tied [false, false, false] (fCons (fVar 0) (fCons (fVar 6) (fCons (fVar 3) (fNil)))))) (fNil))))) (fOp opAdd (fVar 5) (fTup (fCons (fVar 3) (fNil))))))
    (fAsg 2 (fOp opAdd (fVar 2) (fVar 4)))))
    (fRet (fVar 2)))
def m__law_e_apart_sets : FSem := semOf 2 7 b__law_e_apart_sets
def b__law_e_right : FS := fSeq (fIfS (fAnd (fB (fOp cGt (fOp ixD (fVar 0) (fC (.int 0))) (fC (.int 8)))) (fB (fOp cIn (fBlt bLen (fCons (fOp ixD (fVar 0) (fC (.int 1))) (fNil))) (fLst (fCons (fC (.int 0)) (fCons (fOp opFdiv (fOp opMul (fOp ixD (fVar 0) (fC (.int 0))) (fOp opSub (fOp ixD (fVar 0) (fC (.int 0))) (fC (.int 1)))) (fC (.int 2))) (fNil))))))) (fRet (fC (.bool true))) (fNext))
    (fSeq (fAsg 1 (fCall m__law_e_is_alike [false] (fCons (fVar 0) (fNil))))
    (fSeq (fFor (iRange1 (fCons (fC (.int 2)) (fNil))) (gNm 2) [2, 3, 4, 5, 6] (fSeq (fAsg 3 (fCall m_is_alike [false] (fCons (fVar 0) (fNil))))
    (fSeq (fIfS (fOr (fNot (fB (fUn (bIs "bool") (fVar 3)))) (fB (fOp cNe (fVar 3) (fVar 1)))) (fRet (fC (.bool false))) (fNext))
    (fSeq (fAsg 4 (fCall m_alike_value [false] (fCons (fVar 0) (fNil))))
    (fSeq (fIfS (fAnd (fNot (fB (fVar 1))) (fB (fOp cIsNot (fVar 4) (fC .none)))) (fRet (fC (.bool false))) (fNext))
    (fIfS (fB (fVar 1)) (fSeq (fAsg 5 (fBlt bMaxL (fCons (fLc (iSeq (fCall m__law_e_apart_sets [false, false] (fCons (fVar 0) (fCons (fRg1 mkL (fOp ixD (fVar 0) (fC (.int 0)))) (fNil))))) (gNm 6) [6] (fYes) (fBlt bLen (fCons (fVar 6) (fNil)))) (fNil))))
    (fIfS (fOr (fNot (fB (fUn (bIs "tuple") (fVar 4)))) (fB (fOp cNe (fVar 4) (fCall m__law_e_part [false, false] (fCons (fOp ixD (fVar 0) (fC (.int 0))) (fCons (fBlt bMax2 (fCons (fC (.int 1)) (fCons (fVar 5) (fNil)))) (fNil))))))) (fRet (fC (.bool false))) (fNext))) (fNext)))))))
    (fRet (fC (.bool true)))))
def m__law_e_right : FSem := semOf 1 7 b__law_e_right
def b_law : FS := fSeq (fAsg 1 (fLst (fCons (fVar 0) (fCons (fC (.int 0)) (fCons (fC (.int 0)) (fNil))))))
    (fSeq (fFor (iRange1 (fCons (fC (.int 4)) (fNil))) (gNm 2) [2, 3, 4, 5, 6, 7, 8] (fSeq (fIfS (fAnd (fB (fOp cGt (fVar 2) (fC (.int 1)))) (fB (fOp cGe (fOp ixD (fVar 1) (fC (.int 1))) (fBlt bLen (fCons (fVar 0) (fNil)))))) (fBreak) (fNext))
    (fSeq (fAsg 3 (fCall m__law_e_round_web [true, false] (fCons (fVar 1) (fCons (fOp opAdd (fC (.int 3)) (fCall m__law_e_dip [true, false] (fCons (fVar 1) (fCons (fC (.int 8)) (fNil))))) (fNil)))))
    (fSeq (fFor (iSeq (fLst (fCons (fCall m__law_e_web [true, false] (fCons (fVar 1) (fCons (fC (.int 6)) (fNil)))) (fCons (fVar 3) (fCons (fCall m__law_e_bent [true, false] (fCons (fVar 1) (fCons (fVar 3) (fNil)))) (fNil)))))) (gNm 4) [4] (fIfS (fNot (fB (fCall m__law_e_right [false] (fCons (fVar 4) (fNil))))) (fRet (fC (.bool false))) (fNext)))
    (fSeq (fFor (iSeq (fLst (fCons (fCall m__law_e_two_rings [true] (fCons (fVar 1) (fNil))) (fCons (fCall m__law_e_tied_across [true, false] (fCons (fVar 1) (fCons (fOp opAdd (fC (.int 6)) (fOp opMul (fC (.int 2)) (fCall m__law_e_dip [true, false] (fCons (fVar 1) (fCons (fC (.int 3)) (fNil)))))) (fNil)))) (fNil))))) (gNm 4) [4] (fIfS (fNot (fB (fCall m__law_e_right [false] (fCons (fCall m__law_e_moved [false, false] (fCons (fVar 4) (fCons (fCall m__law_e_order [true, false] (fCons (fVar 1) (fCons (fOp ixD (fVar 4) (fC (.int 0))) (fNil)))) (fNil)))) (fNil))))) (fRet (fC (.bool false))) (fNext)))
    (fSeq (fAsg 5 (fOp opAdd (fC (.int 2)) (fCall m__law_e_dip [true, false] (fCons (fVar 1) (fCons (fC (.int 4)) (fNil))))))
    (fSeq (fPar 4 6 (fCons (fCall m__law_e_round_web [true, false] (fCons (fVar 1) (fCons (fVar 5) (fNil)))) (fCons (fCall m__law_e_round_web [true, false] (fCons (fVar 1) (fCons (fVar 5) (fNil)))) (fNil))))
    (fFor (iSeq (fLst (fCons (fTup (fCons (fVar 4) (fCons (fVar 6) (fNil)))) (fCons (fTup (fCons (fVar 4) (fCons (fVar 4) (fNil)))) (fNil))))) (gNm 7) [7, 8] (fSeq (fAsg 8 (fCall m__law_e_side_by_side [false, false] (fCons (fOp ixD (fVar 7) (fC (.int 0))) (fCons (fOp ixD (fVar 7) (fC (.int 1))) (fNil)))))
    (fIfS (fNot (fB (fCall m__law_e_right [false] (fCons (fCall m__law_e_moved [false, false] (fCons (fVar 8) (fCons (fCall m__law_e_order [true, false] (fCons (fVar 1) (fCons (fOp ixD (fVar 8) (fC (.int 0))) (fNil)))) (fNil)))) (fNil))))) (fRet (fC (.bool false))) (fNext)))))))))))
    (fRet (fC (.bool true))))
def m_law : FSem := semOf 1 9 b_law
section
variable {P : Program} {w : World} {K : PySem.W.Frag} {mg : Str → Option Value} {base : Heap}
theorem sc__law_e_moved : FnScope ["web", "order", "ties", "i", "j"] ["web", "order"] (defScope s__law_e_moved) := ⟨rfl, rfl, rfl, by decide +kernel, rfl, by decide +kernel, by decide +kernel⟩
theorem ok__law_e_moved (T : TxOk fa fn K mg base) : Df P w K mg base "_law_e_moved" 1 ["web", "order"] [false, false] m__law_e_moved := by
  refine dfOk (bd := b__law_e_moved) T 0 0 sc__law_e_moved (by decide) (fun _ _ _ _ _ _ us hl => match us, hl with | [_, _], _ => rfl) ?_
  intro f cdv A outer s H vs E hr
  have sc := sc__law_e_moved
  exact pfs_cons (pfs_set (i := 2) sc.nd (pf_lst (pf_nil)))
    (pfs_cons (pfs_for (ws := [3, 4]) (wp := [3, 4]) (passes_of rfl) rfl (pfi_seq (pf_ix fix_d (pf_var 0) (pf_int))) (pfg_tup rfl (pfgs_cons (pfg_nm sc.nd) (pfgs_cons (pfg_nm sc.nd) (pfgs_nil))) rfl rfl tp2) (pfs_one (pfs_expr (pf_lm 2 PySem.F.slot_list_append PySem.F.type_list_append fm_append (pf_cons (pf_tup (pf_cons (pf_blt (fb_min2 rfl) (T.free 44) bb_min (pf_cons (pf_ix fix_d (pf_var 1) (pf_var 3)) (pf_cons (pf_ix fix_d (pf_var 1) (pf_var 4)) (pf_nil)))) (pf_cons (pf_blt (fb_max2 rfl) (T.free 43) bb_max (pf_cons (pf_ix fix_d (pf_var 1) (pf_var 3)) (pf_cons (pf_ix fix_d (pf_var 1) (pf_var 4)) (pf_nil)))) (pf_nil)))) (pf_nil)) (pv 2)))))
    (pfs_one (pfs_ret (pf_tup (pf_cons (pf_ix fix_d (pf_var 0) (pf_int)) (pf_cons (pf_bty fb_tuple (T.free 46) bb_tuple (pf_cons (pf_blt fb_sorted (T.free 45) bb_sorted (pf_cons (pf_var 2) (pf_nil))) (pf_nil))) (pf_nil)))))))
theorem sc__law_e_stir : FnScope ["cell", "at", "one", "two", "three"] ["cell", "at"] (defScope s__law_e_stir) := ⟨rfl, rfl, rfl, by decide +kernel, rfl, by decide +kernel, by decide +kernel⟩
theorem ok__law_e_stir (T : TxOk fa fn K mg base) : Df P w K mg base "_law_e_stir" 1 ["cell", "at"] [false, false] m__law_e_stir := by
  refine dfOk (bd := b__law_e_stir) T 1 1 sc__law_e_stir (by decide) (fun _ _ _ _ _ _ us hl => match us, hl with | [_, _], _ => rfl) ?_
  intro f cdv A outer s H vs E hr
  have sc := sc__law_e_stir
  exact pfs_cons (pfs_if (pft_cmp fop_ge (pf_var 0) (pf_powC 1000000000000000000) (nomark _)) (pfs_one (pfs_ret (pf_var 0))) (pfs_nil))
    (pfs_cons (pfs_set (i := 2) sc.nd (pf_op fop_mod (pf_op fop_add (pf_op fop_add (pf_op fop_mul (pf_op fop_mod (pf_var 0) (pf_int)) (pf_int)) (pf_op fop_mul (pf_var 1) (pf_int))) (pf_int)) (pf_int)))
    (pfs_cons (pfs_set (i := 3) sc.nd (pf_op fop_mod (pf_op fop_add (pf_op fop_add (pf_op fop_add (pf_op fop_mul (pf_var 2) (pf_var 2)) (pf_op fop_mul (pf_op fop_mul (pf_int) (pf_var 1)) (pf_var 1))) (pf_op fop_mul (pf_int) (pf_var 2))) (pf_int)) (pf_int)))
    (pfs_cons (pfs_set (i := 4) sc.nd (pf_op fop_mod (pf_op fop_add (pf_op fop_add (pf_op fop_add (pf_op fop_mul (pf_var 3) (pf_var 3)) (pf_op fop_mul (pf_int) (pf_var 3))) (pf_var 2)) (pf_var 1)) (pf_int)))
    (pfs_one (pfs_ret (pf_op fop_add (pf_op fop_mul (pf_var 3) (pf_int)) (pf_var 4)))))))
theorem sc__law_e_dip : FnScope ["cup", "many", "at", "cell", "found"] ["cup", "many"] (defScope s__law_e_dip) := ⟨rfl, rfl, rfl, by decide +kernel, rfl, by decide +kernel, by decide +kernel⟩
theorem ok__law_e_dip (T : TxOk fa fn K mg base) : Df P w K mg base "_law_e_dip" 2 ["cup", "many"] [true, false] m__law_e_dip := by
  refine dfOk (bd := b__law_e_dip) T 2 2 sc__law_e_dip (by decide) (fun _ _ _ _ _ _ us hl => match us, hl with | [_, _], _ => rfl) ?_
  intro f cdv A outer s H vs E hr
  have sc := sc__law_e_dip
  exact pfs_cons (pfs_if (pft_cmp (fop_lt hr.units0) (pf_ix fix_d (pf_var 0) (pf_int)) (pf_var 1) (nomark _)) (pfs_cons (pfs_set (i := 2) sc.nd (pf_ix fix_d (pf_var 0) (pf_int)))
    (pfs_cons (pfs_set (i := 3) sc.nd (pf_op fop_add (pf_op fop_mul (pf_int) (pf_var 2)) (pf_int)))
    (pfs_cons (pfs_if (pft_cmp (fop_lt hr.units0) (pf_var 2) (pf_blt fb_len (T.free 47) bb_len (pf_cons (pf_ix fix_d (pf_var 0) (pf_int)) (pf_nil))) (nomark _)) (pfs_one (pfs_set (i := 3) sc.nd (pf_ix fix_d (pf_ix fix_d (pf_var 0) (pf_int)) (pf_var 2)))) (pfs_one (pfs_if (pft_cmp fop_gt (pf_blt fb_len (T.free 47) bb_len (pf_cons (pf_ix fix_d (pf_var 0) (pf_int)) (pf_nil))) (pf_int) (nomark _)) (pfs_one (pfs_set (i := 3) sc.nd (pf_op fop_add (pf_op fop_mod (pf_ix fix_d (pf_ix fix_d (pf_var 0) (pf_int)) (pf_op fop_mod (pf_op fop_add (pf_op fop_mul (pf_int) (pf_var 2)) (pf_int)) (pf_blt fb_len (T.free 47) bb_len (pf_cons (pf_ix fix_d (pf_var 0) (pf_int)) (pf_nil))))) (pf_int)) (pf_op fop_mul (pf_var 2) (pf_int))))) (pfs_nil))))
    (pfs_cons (pfs_setIx 0 (pf_op fop_add (pf_var 2) (pf_int)) (pv 0) (pf_int))
    (pfs_one (pfs_setIx 0 (pf_callD (ok__law_e_stir T) (hr.mono (by decide)) (fun σ => passAt (takes_of rfl rfl rfl rfl) σ) (pf_cons (pf_var 3) (pf_cons (pf_var 2) (pf_nil)))) (pv 0) (pf_int))))))) (pfs_nil))
    (pfs_cons (pfs_set (i := 4) sc.nd (pf_op fop_mod (pf_ix fix_d (pf_var 0) (pf_int)) (pf_var 1)))
    (pfs_cons (pfs_setIx 0 (pf_op fop_fdiv (pf_ix fix_d (pf_var 0) (pf_int)) (pf_var 1)) (pv 0) (pf_int))
    (pfs_one (pfs_ret (pf_var 4)))))
theorem sc__law_e_order : FnScope ["cup", "n", "left", "place"] ["cup", "n"] (defScope s__law_e_order) := ⟨rfl, rfl, rfl, by decide +kernel, rfl, by decide +kernel, by decide +kernel⟩
theorem ok__law_e_order (T : TxOk fa fn K mg base) : Df P w K mg base "_law_e_order" 3 ["cup", "n"] [true, false] m__law_e_order := by
  refine dfOk (bd := b__law_e_order) T 3 3 sc__law_e_order (by decide) (fun _ _ _ _ _ _ us hl => match us, hl with | [_, _], _ => rfl) ?_
  intro f cdv A outer s H vs E hr
  have sc := sc__law_e_order
  exact pfs_cons (pfs_set (i := 2) sc.nd (pf_lRg1 rfl (T.free 48) (T.free 49) (pf_var 1)))
    (pfs_one (pfs_ret (pf_bty fb_tuple (T.free 46) bb_tuple (pf_cons (pf_lc (own := [("place", 3)]) rfl sc.nd (pfi_range1 rfl (T.free 49) (pf_cons (pf_var 1) (pf_nil))) (blkOk_by (by rfl)) (fun s H C cl fp => pfg_nm sc.nd) (fun s H C cl fp => pfts_nil) (fun s H C cl fp => pf_lm 2 PySem.F.slot_list_pop PySem.F.type_list_pop fm_popAt (pf_cons (pf_callD (ok__law_e_dip T) (hr.mono (by decide)) pass0At (pf_cons (pf_var 0) (pf_cons (pf_blt fb_len (T.free 47) bb_len (pf_cons (pf_var 2) (pf_nil))) (pf_nil)))) (pf_nil)) (pv 2))) (pf_nil)))))
theorem sc__law_e_round_web : FnScope ["cup", "n", "far", "step", "ties", "i", "j"] ["cup", "n"] (defScope s__law_e_round_web) := ⟨rfl, rfl, rfl, by decide +kernel, rfl, by decide +kernel, by decide +kernel⟩
theorem ok__law_e_round_web (T : TxOk fa fn K mg base) : Df P w K mg base "_law_e_round_web" 4 ["cup", "n"] [true, false] m__law_e_round_web := by
  refine dfOk (bd := b__law_e_round_web) T 4 4 sc__law_e_round_web (by decide) (fun _ _ _ _ _ _ us hl => match us, hl with | [_, _], _ => rfl) ?_
  intro f cdv A outer s H vs E hr
  have sc := sc__law_e_round_web
  exact pfs_cons (pfs_setLc (own := [("step", 3)]) rfl sc.nd rfl (pfi_range2 rfl (T.free 49) (pf_cons (pf_int) (pf_cons (pf_op fop_add (pf_op fop_fdiv (pf_var 1) (pf_int)) (pf_int)) (pf_nil)))) (blkOk_by (by rfl)) (fun s H C cl fp => pfg_nm sc.nd) (fun s H C cl fp => pfts_one (pft_cmp (fop_eq hr.u64) (pf_callD (ok__law_e_dip T) (hr.mono (by decide)) pass0At (pf_cons (pf_var 0) (pf_cons (pf_int) (pf_nil)))) (pf_int) (nomark _))) (fun s H C cl fp => pf_var 3))
    (pfs_cons (pfs_set (i := 4) sc.nd (pf_lst (pf_nil)))
    (pfs_cons (pfs_for (ws := [5]) (wp := [5, 6]) (passes_of rfl) rfl (pfi_range1 rfl (T.free 49) (pf_cons (pf_var 1) (pf_nil))) (pfg_nm sc.nd) (pfs_one (pfs_for (ws := [6]) (wp := [6]) (passes_of rfl) rfl (pfi_range2 rfl (T.free 49) (pf_cons (pf_op fop_add (pf_var 5) (pf_int)) (pf_cons (pf_var 1) (pf_nil)))) (pfg_nm sc.nd) (pfs_one (pfs_if (pft_cmp (fop_in hr.u65) (pf_blt (fb_min2 rfl) (T.free 44) bb_min (pf_cons (pf_op fop_sub (pf_var 6) (pf_var 5)) (pf_cons (pf_op fop_add (pf_op fop_sub (pf_var 1) (pf_var 6)) (pf_var 5)) (pf_nil)))) (pf_var 2) (by rfl)) (pfs_one (pfs_expr (pf_lm 4 PySem.F.slot_list_append PySem.F.type_list_append fm_append (pf_cons (pf_tup (pf_cons (pf_var 5) (pf_cons (pf_var 6) (pf_nil)))) (pf_nil)) (pv 4)))) (pfs_nil))))))
    (pfs_one (pfs_ret (pf_callD (ok__law_e_moved T) (hr.mono (by decide)) (fun σ => passAt (takes_of rfl rfl rfl rfl) σ) (pf_cons (pf_tup (pf_cons (pf_var 1) (pf_cons (pf_bty fb_tuple (T.free 46) bb_tuple (pf_cons (pf_var 4) (pf_nil))) (pf_nil)))) (pf_cons (pf_callD (ok__law_e_order T) (hr.mono (by decide)) (fun σ => passAt (takes_of rfl rfl rfl rfl) σ) (pf_cons (pf_var 0) (pf_cons (pf_var 1) (pf_nil)))) (pf_nil))))))))
theorem sc__law_e_web_of : FnScope ["cup", "n", "often", "ties", "i", "j"] ["cup", "n"] (defScope s__law_e_web_of) := ⟨rfl, rfl, rfl, by decide +kernel, rfl, by decide +kernel, by decide +kernel⟩
theorem ok__law_e_web_of (T : TxOk fa fn K mg base) : Df P w K mg base "_law_e_web_of" 3 ["cup", "n"] [true, false] m__law_e_web_of := by
  refine dfOk (bd := b__law_e_web_of) T 5 5 sc__law_e_web_of (by decide) (fun _ _ _ _ _ _ us hl => match us, hl with | [_, _], _ => rfl) ?_
  intro f cdv A outer s H vs E hr
  have sc := sc__law_e_web_of
  exact pfs_cons (pfs_set (i := 2) sc.nd (pf_callD (ok__law_e_dip T) (hr.mono (by decide)) (fun σ => passAt (takes_of rfl rfl rfl rfl) σ) (pf_cons (pf_var 0) (pf_cons (pf_int) (pf_nil)))))
    (pfs_cons (pfs_set (i := 3) sc.nd (pf_lst (pf_nil)))
    (pfs_cons (pfs_for (ws := [4]) (wp := [4, 5]) (passes_of rfl) rfl (pfi_range1 rfl (T.free 49) (pf_cons (pf_var 1) (pf_nil))) (pfg_nm sc.nd) (pfs_one (pfs_for (ws := [5]) (wp := [5]) (passes_of rfl) rfl (pfi_range2 rfl (T.free 49) (pf_cons (pf_op fop_add (pf_var 4) (pf_int)) (pf_cons (pf_var 1) (pf_nil)))) (pfg_nm sc.nd) (pfs_one (pfs_if (pft_cmp (fop_lt hr.units0) (pf_callD (ok__law_e_dip T) (hr.mono (by decide)) (fun σ => passAt (takes_of rfl rfl rfl rfl) σ) (pf_cons (pf_var 0) (pf_cons (pf_int) (pf_nil)))) (pf_var 2) (nomark _)) (pfs_one (pfs_expr (pf_lm 3 PySem.F.slot_list_append PySem.F.type_list_append fm_append (pf_cons (pf_tup (pf_cons (pf_var 4) (pf_cons (pf_var 5) (pf_nil)))) (pf_nil)) (pv 3)))) (pfs_nil))))))
    (pfs_one (pfs_ret (pf_tup (pf_cons (pf_var 1) (pf_cons (pf_bty fb_tuple (T.free 46) bb_tuple (pf_cons (pf_var 3) (pf_nil))) (pf_nil))))))))
theorem sc__law_e_web : FnScope ["cup", "most", "n"] ["cup", "most"] (defScope s__law_e_web) := ⟨rfl, rfl, rfl, by decide +kernel, rfl, by decide +kernel, by decide +kernel⟩
theorem ok__law_e_web (T : TxOk fa fn K mg base) : Df P w K mg base "_law_e_web" 4 ["cup", "most"] [true, false] m__law_e_web := by
  refine dfOk (bd := b__law_e_web) T 6 6 sc__law_e_web (by decide) (fun _ _ _ _ _ _ us hl => match us, hl with | [_, _], _ => rfl) ?_
  intro f cdv A outer s H vs E hr
  have sc := sc__law_e_web
  exact pfs_cons (pfs_set (i := 2) sc.nd (pf_callD (ok__law_e_dip T) (hr.mono (by decide)) (fun σ => passAt (takes_of rfl rfl rfl rfl) σ) (pf_cons (pf_var 0) (pf_cons (pf_op fop_add (pf_var 1) (pf_int)) (pf_nil)))))
    (pfs_one (pfs_ret (pf_callD (ok__law_e_web_of T) (hr.mono (by decide)) (fun σ => passAt (takes_of rfl rfl rfl rfl) σ) (pf_cons (pf_var 0) (pf_cons (pf_var 2) (pf_nil))))))
theorem sc__law_e_bent : FnScope ["cup", "web", "i", "j", "pair", "tie"] ["cup", "web"] (defScope s__law_e_bent) := ⟨rfl, rfl, rfl, by decide +kernel, rfl, by decide +kernel, by decide +kernel⟩
theorem ok__law_e_bent (T : TxOk fa fn K mg base) : Df P w K mg base "_law_e_bent" 3 ["cup", "web"] [true, false] m__law_e_bent := by
  refine dfOk (bd := b__law_e_bent) T 7 7 sc__law_e_bent (by decide) (fun _ _ _ _ _ _ us hl => match us, hl with | [_, _], _ => rfl) ?_
  intro f cdv A outer s H vs E hr
  have sc := sc__law_e_bent
  exact pfs_cons (pfs_set (i := 2) sc.nd (pf_callD (ok__law_e_dip T) (hr.mono (by decide)) (fun σ => passAt (takes_of rfl rfl rfl rfl) σ) (pf_cons (pf_var 0) (pf_cons (pf_ix fix_d (pf_var 1) (pf_int)) (pf_nil)))))
    (pfs_cons (pfs_set (i := 3) sc.nd (pf_op fop_mod (pf_op fop_add (pf_op fop_add (pf_var 2) (pf_int)) (pf_callD (ok__law_e_dip T) (hr.mono (by decide)) (fun σ => passAt (takes_of rfl rfl rfl rfl) σ) (pf_cons (pf_var 0) (pf_cons (pf_op fop_sub (pf_ix fix_d (pf_var 1) (pf_int)) (pf_int)) (pf_nil))))) (pf_ix fix_d (pf_var 1) (pf_int))))
    (pfs_cons (pfs_set (i := 4) sc.nd (pf_tup (pf_cons (pf_blt (fb_min2 rfl) (T.free 44) bb_min (pf_cons (pf_var 2) (pf_cons (pf_var 3) (pf_nil)))) (pf_cons (pf_blt (fb_max2 rfl) (T.free 43) bb_max (pf_cons (pf_var 2) (pf_cons (pf_var 3) (pf_nil)))) (pf_nil)))))
    (pfs_cons (pfs_if (pft_cmp (fop_in hr.u65) (pf_var 4) (pf_ix fix_d (pf_var 1) (pf_int)) (by rfl)) (pfs_one (pfs_ret (pf_tup (pf_cons (pf_ix fix_d (pf_var 1) (pf_int)) (pf_cons (pf_bty fb_tuple (T.free 46) bb_tuple (pf_cons (pf_lc (own := [("tie", 5)]) rfl sc.nd (pfi_seq (pf_ix fix_d (pf_var 1) (pf_int))) (blkOk_by (by rfl)) (fun s H C cl fp => pfg_nm sc.nd) (fun s H C cl fp => pfts_one (pft_cmp (fop_ne hr.u64) (pf_var 5) (pf_var 4) (nomark _))) (fun s H C cl fp => pf_var 5)) (pf_nil))) (pf_nil)))))) (pfs_nil))
    (pfs_one (pfs_ret (pf_tup (pf_cons (pf_ix fix_d (pf_var 1) (pf_int)) (pf_cons (pf_bty fb_tuple (T.free 46) bb_tuple (pf_cons (pf_blt fb_sorted (T.free 45) bb_sorted (pf_cons (pf_op fop_add (pf_ix fix_d (pf_var 1) (pf_int)) (pf_tup (pf_cons (pf_var 4) (pf_nil)))) (pf_nil))) (pf_nil))) (pf_nil)))))))))
theorem sc__law_e_side_by_side : FnScope ["one", "other", "more", "i", "j"] ["one", "other"] (defScope s__law_e_side_by_side) := ⟨rfl, rfl, rfl, by decide +kernel, rfl, by decide +kernel, by decide +kernel⟩
theorem ok__law_e_side_by_side (T : TxOk fa fn K mg base) : Df P w K mg base "_law_e_side_by_side" 1 ["one", "other"] [false, false] m__law_e_side_by_side := by
  refine dfOk (bd := b__law_e_side_by_side) T 8 8 sc__law_e_side_by_side (by decide) (fun _ _ _ _ _ _ us hl => match us, hl with | [_, _], _ => rfl) ?_
  intro f cdv A outer s H vs E hr
  have sc := sc__law_e_side_by_side
  exact pfs_cons (pfs_setLc (own := [("i", 3), ("j", 4)]) rfl sc.nd rfl (pfi_seq (pf_ix fix_d (pf_var 1) (pf_int))) (blkOk_by (by rfl)) (fun s H C cl fp => pfg_tup rfl (pfgs_cons (pfg_nm sc.nd) (pfgs_cons (pfg_nm sc.nd) (pfgs_nil))) rfl rfl tp2) (fun s H C cl fp => pfts_nil) (fun s H C cl fp => pf_tup (pf_cons (pf_op fop_add (pf_var 3) (pf_ix fix_d (pf_var 0) (pf_int))) (pf_cons (pf_op fop_add (pf_var 4) (pf_ix fix_d (pf_var 0) (pf_int))) (pf_nil)))))
    (pfs_one (pfs_ret (pf_tup (pf_cons (pf_op fop_add (pf_ix fix_d (pf_var 0) (pf_int)) (pf_ix fix_d (pf_var 1) (pf_int))) (pf_cons (pf_bty fb_tuple (T.free 46) bb_tuple (pf_cons (pf_op fop_add (pf_bty fb_list (T.free 48) bb_list (pf_cons (pf_ix fix_d (pf_var 0) (pf_int)) (pf_nil))) (pf_var 2)) (pf_nil))) (pf_nil))))))
theorem sc__law_e_ring_of : FnScope ["n", "place"] ["n"] (defScope s__law_e_ring_of) := ⟨rfl, rfl, rfl, by decide +kernel, rfl, by decide +kernel, by decide +kernel⟩
theorem ok__law_e_ring_of (T : TxOk fa fn K mg base) : Df P w K mg base "_law_e_ring_of" 1 ["n"] [false] m__law_e_ring_of := by
  refine dfOk (bd := b__law_e_ring_of) T 9 9 sc__law_e_ring_of (by decide) (fun _ _ _ _ _ _ us hl => match us, hl with | [_], _ => rfl) ?_
  intro f cdv A outer s H vs E hr
  have sc := sc__law_e_ring_of
  exact pfs_one (pfs_ret (pf_tup (pf_cons (pf_var 0) (pf_cons (pf_bty fb_tuple (T.free 46) bb_tuple (pf_cons (pf_blt fb_sorted (T.free 45) bb_sorted (pf_cons (pf_op fop_add (pf_lst (pf_cons (pf_tup (pf_cons (pf_int) (pf_cons (pf_op fop_sub (pf_var 0) (pf_int)) (pf_nil)))) (pf_nil))) (pf_lc (own := [("place", 1)]) rfl sc.nd (pfi_range1 rfl (T.free 49) (pf_cons (pf_op fop_sub (pf_var 0) (pf_int)) (pf_nil))) (blkOk_by (by rfl)) (fun s H C cl fp => pfg_nm sc.nd) (fun s H C cl fp => pfts_nil) (fun s H C cl fp => pf_tup (pf_cons (pf_var 1) (pf_cons (pf_op fop_add (pf_var 1) (pf_int)) (pf_nil)))))) (pf_nil))) (pf_nil))) (pf_nil)))))
theorem sc__law_e_two_rings : FnScope ["cup", "n"] ["cup"] (defScope s__law_e_two_rings) := ⟨rfl, rfl, rfl, by decide +kernel, rfl, by decide +kernel, by decide +kernel⟩
theorem ok__law_e_two_rings (T : TxOk fa fn K mg base) : Df P w K mg base "_law_e_two_rings" 3 ["cup"] [true] m__law_e_two_rings := by
  refine dfOk (bd := b__law_e_two_rings) T 10 10 sc__law_e_two_rings (by decide) (fun _ _ _ _ _ _ us hl => match us, hl with | [_], _ => rfl) ?_
  intro f cdv A outer s H vs E hr
  have sc := sc__law_e_two_rings
  exact pfs_cons (pfs_set (i := 1) sc.nd (pf_op fop_add (pf_int) (pf_callD (ok__law_e_dip T) (hr.mono (by decide)) (fun σ => passAt (takes_of rfl rfl rfl rfl) σ) (pf_cons (pf_var 0) (pf_cons (pf_int) (pf_nil))))))
    (pfs_one (pfs_ret (pf_callD (ok__law_e_side_by_side T) (hr.mono (by decide)) (fun σ => passAt (takes_of rfl rfl rfl rfl) σ) (pf_cons (pf_callD (ok__law_e_ring_of T) (hr.mono (by decide)) (fun σ => passAt (takes_of rfl rfl rfl rfl) σ) (pf_cons (pf_var 1) (pf_nil))) (pf_cons (pf_callD (ok__law_e_ring_of T) (hr.mono (by decide)) (fun σ => passAt (takes_of rfl rfl rfl rfl) σ) (pf_cons (pf_op fop_add (pf_op fop_add (pf_var 1) (pf_int)) (pf_callD (ok__law_e_dip T) (hr.mono (by decide)) (fun σ => passAt (takes_of rfl rfl rfl rfl) σ) (pf_cons (pf_var 0) (pf_cons (pf_op fop_sub (pf_int) (pf_op fop_mul (pf_int) (pf_var 1))) (pf_nil))))) (pf_nil))) (pf_nil))))))
theorem sc__law_e_tied : FnScope ["web", "one", "other"] ["web", "one", "other"] (defScope s__law_e_tied) := ⟨rfl, rfl, rfl, by decide +kernel, rfl, by decide +kernel, by decide +kernel⟩
theorem ok__law_e_tied (T : TxOk fa fn K mg base) : Df P w K mg base "_law_e_tied" 1 ["web", "one", "other"] [false, false, false] m__law_e_tied := by
  refine dfOk (bd := b__law_e_tied) T 11 11 sc__law_e_tied (by decide) (fun _ _ _ _ _ _ us hl => match us, hl with | [_, _, _], _ => rfl) ?_
  intro f cdv A outer s H vs E hr
  have sc := sc__law_e_tied
  exact pfs_one (pfs_ret (pf_cmp (fop_in hr.u65) (pf_tup (pf_cons (pf_blt (fb_min2 rfl) (T.free 44) bb_min (pf_cons (pf_var 1) (pf_cons (pf_var 2) (pf_nil)))) (pf_cons (pf_blt (fb_max2 rfl) (T.free 43) bb_max (pf_cons (pf_var 1) (pf_cons (pf_var 2) (pf_nil)))) (pf_nil)))) (pf_ix fix_d (pf_var 0) (pf_int)) (by rfl)))
theorem sc__law_e_tied_across : FnScope ["cup", "n", "web", "left", "more", "i", "some", "j"] ["cup", "n"] (defScope s__law_e_tied_across) := ⟨rfl, rfl, rfl, by decide +kernel, rfl, by decide +kernel, by decide +kernel⟩
theorem ok__law_e_tied_across (T : TxOk fa fn K mg base) : Df P w K mg base "_law_e_tied_across" 3 ["cup", "n"] [true, false] m__law_e_tied_across := by
  refine dfOk (bd := b__law_e_tied_across) T 12 12 sc__law_e_tied_across (by decide) (fun _ _ _ _ _ _ us hl => match us, hl with | [_, _], _ => rfl) ?_
  intro f cdv A outer s H vs E hr
  have sc := sc__law_e_tied_across
  exact pfs_cons (pfs_set (i := 2) sc.nd (pf_callD (ok__law_e_ring_of T) (hr.mono (by decide)) (fun σ => passAt (takes_of rfl rfl rfl rfl) σ) (pf_cons (pf_var 1) (pf_nil))))
    (pfs_cons (pfs_set (i := 3) sc.nd (pf_lRg1 rfl (T.free 48) (T.free 49) (pf_var 1)))
    (pfs_cons (pfs_set (i := 4) sc.nd (pf_lst (pf_nil)))
    (pfs_cons (pfs_while (wp := [5, 6, 7]) (passes_of rfl) (pft_cmp fop_gt (pf_blt fb_len (T.free 47) bb_len (pf_cons (pf_var 3) (pf_nil))) (pf_int) (nomark _)) (pfs_cons (pfs_set (i := 5) sc.nd (pf_lm 3 PySem.F.slot_list_pop PySem.F.type_list_pop fm_popAt (pf_cons (pf_int) (pf_nil)) (pv 3)))
    (pfs_cons (pfs_setLcB (own := [("j", 7)]) rfl sc.nd rfl (pfi_seq (pf_var 3)) (blkOk_by (by rfl)) (fun s H C cl fp => pfg_nm sc.nd) (fun s H C cl fp => pfts_one (pft_not (pft_B (pf_callD (ok__law_e_tied T) (hr.mono (by decide)) pass0At (pf_cons (pf_var 2) (pf_cons (pf_var 5) (pf_cons (pf_var 7) (pf_nil)))))))) (fun s H C cl fp => pf_var 7))
    (pfs_one (pfs_if (pft_cmp (fop_ne hr.u64) (pf_var 6) (pf_lst (pf_nil)) (nomark _)) (pfs_cons (pfs_expr (pf_lm 4 PySem.F.slot_list_append PySem.F.type_list_append fm_append (pf_cons (pf_tup (pf_cons (pf_var 5) (pf_cons (pf_ix fix_d (pf_var 6) (pf_callD (ok__law_e_dip T) (hr.mono (by decide)) (fun σ => passAt (takes_of rfl rfl rfl rfl) σ) (pf_cons (pf_var 0) (pf_cons (pf_blt fb_len (T.free 47) bb_len (pf_cons (pf_var 6) (pf_nil))) (pf_nil))))) (pf_nil)))) (pf_nil)) (pv 4)))
    (pfs_one (pfs_expr (pf_lm 3 PySem.F.slot_list_remove PySem.F.type_list_remove fm_remove (pf_cons (pf_ix fix_d (pf_ix fix_d (pf_var 4) (pf_un fun_neg (pf_int))) (pf_int)) (pf_nil)) (pv 3))))) (pfs_nil))))))
    (pfs_one (pfs_ret (pf_tup (pf_cons (pf_var 1) (pf_cons (pf_bty fb_tuple (T.free 46) bb_tuple (pf_cons (pf_blt fb_sorted (T.free 45) bb_sorted (pf_cons (pf_op fop_add (pf_bty fb_list (T.free 48) bb_list (pf_cons (pf_ix fix_d (pf_var 2) (pf_int)) (pf_nil))) (pf_var 4)) (pf_nil))) (pf_nil))) (pf_nil)))))))))
theorem sc__law_e_turned_on : FnScope ["web", "some", "most", "found", "here", "there", "k"] ["web", "some", "most", "found"] (defScope s__law_e_turned_on) := ⟨rfl, rfl, rfl, by decide +kernel, rfl, by decide +kernel, by decide +kernel⟩
theorem ok__law_e_turned_on (T : TxOk fa fn K mg base) : ∀ n : Nat, Df P w K mg base "_law_e_turned_on" (1 + n) ["web", "some", "most", "found"] [false, false, false, true] (m__law_e_turned_on n)
  | 0 => dfNone T 13 13 (fun _ _ _ _ _ _ us hl => match us, hl with | [_, _, _, _], _ => rfl)
  | n + 1 => by
    have ih := ok__law_e_turned_on T n
    refine dfOk (k := 1 + n) (bd := b__law_e_turned_on (m__law_e_turned_on n)) T 13 13 sc__law_e_turned_on (by decide) (fun _ _ _ _ _ _ us hl => match us, hl with | [_, _, _, _], _ => rfl) ?_
    intro f cdv A outer s H vs E hr
    have sc := sc__law_e_turned_on
    exact pfs_cons (pfs_if (pft_cmp (fop_eq hr.u64) (pf_blt fb_len (T.free 47) bb_len (pf_cons (pf_var 1) (pf_nil))) (pf_ix fix_d (pf_var 0) (pf_int)) (nomark _)) (pfs_cons (pfs_expr (pf_lm 3 PySem.F.slot_list_append PySem.F.type_list_append fm_append (pf_cons (pf_var 1) (pf_nil)) (pv 3)))
        (pfs_one (pfs_retN))) (pfs_nil))
        (pfs_cons (pfs_set (i := 4) sc.nd (pf_blt fb_len (T.free 47) bb_len (pf_cons (pf_var 1) (pf_nil))))
        (pfs_one (pfs_for (ws := [5]) (wp := [5, 6]) (passes_of rfl) rfl (pfi_range1 rfl (T.free 49) (pf_cons (pf_ix fix_d (pf_var 0) (pf_int)) (pf_nil))) (pfg_nm sc.nd) (pfs_one (pfs_if (pft_W (pfw_and (pft_cmp (fop_notIn hr.u65) (pf_var 5) (pf_var 1) (by rfl)) (pfw_and1 (pft_cmp fop_le (pf_blt fb_len (T.free 47) bb_len (pf_cons (pf_var 3) (pf_nil))) (pf_var 2) (nomark _))))) (pfs_one (pfs_if (pft_B (pf_blt (fb_all rfl) (T.free 50) bb_all (pf_cons (pf_lc (own := [("k", 6)]) rfl sc.nd (pfi_range1 rfl (T.free 49) (pf_cons (pf_var 4) (pf_nil))) (blkOk_by (by rfl)) (fun s H C cl fp => pfg_nm sc.nd) (fun s H C cl fp => pfts_nil) (fun s H C cl fp => pf_cmp (fop_eq hr.u64) (pf_callD (ok__law_e_tied T) (hr.mono (by omega)) pass0At (pf_cons (pf_var 0) (pf_cons (pf_var 6) (pf_cons (pf_var 4) (pf_nil))))) (pf_callD (ok__law_e_tied T) (hr.mono (by omega)) pass0At (pf_cons (pf_var 0) (pf_cons (pf_ix fix_d (pf_var 1) (pf_var 6)) (pf_cons (pf_var 5) (pf_nil))))) (nomark _))) (pf_nil)))) (pfs_one (pfs_expr (pf_callD ih (hr.mono (Nat.le_refl _)) (fun σ => passAt (takes_of rfl rfl rfl rfl) σ) (pf_cons (pf_var 0) (pf_cons (pf_op fop_add (pf_var 1) (pf_tup (pf_cons (pf_var 5) (pf_nil)))) (pf_cons (pf_var 2) (pf_cons (pf_var 3) (pf_nil)))))))) (pfs_nil))) (pfs_nil))))))
theorem sc__law_e_is_alike : FnScope ["web", "many", "tie", "place", "found"] ["web"] (defScope s__law_e_is_alike) := ⟨rfl, rfl, rfl, by decide +kernel, rfl, by decide +kernel, by decide +kernel⟩
theorem ok__law_e_is_alike (T : TxOk fa fn K mg base) : Df P w K mg base "_law_e_is_alike" 18 ["web"] [false] m__law_e_is_alike := by
  refine dfOk (bd := b__law_e_is_alike) T 14 14 sc__law_e_is_alike (by decide) (fun _ _ _ _ _ _ us hl => match us, hl with | [_], _ => rfl) ?_
  intro f cdv A outer s H vs E hr
  have sc := sc__law_e_is_alike
  exact pfs_cons (pfs_setLc (own := [("place", 3)]) rfl sc.nd rfl (pfi_range1 rfl (T.free 49) (pf_cons (pf_ix fix_d (pf_var 0) (pf_int)) (pf_nil))) (blkOk_by (by rfl)) (fun s H C cl fp => pfg_nm sc.nd) (fun s H C cl fp => pfts_nil) (fun s H C cl fp => pf_blt fb_len (T.free 47) bb_len (pf_cons (pf_lc (own := [("tie", 2)]) rfl sc.nd (pfi_seq (pf_ix fix_d (pf_var 0) (pf_int))) (blkOk_by (by rfl)) (fun s H C cl fp => pfg_nm sc.nd) (fun s H C cl fp => pfts_one (pft_cmp (fop_in hr.u65) (pf_var 3) (pf_var 2) (by rfl))) (fun s H C cl fp => pf_var 2)) (pf_nil))))
    (pfs_cons (pfs_if (pft_cmp fop_gt (pf_lenSet rfl (T.free 47) (T.free 51) (pf_cons (pf_var 1) (pf_nil))) (pf_int) (nomark _)) (pfs_one (pfs_ret (pf_bl))) (pfs_nil))
    (pfs_cons (pfs_for (ws := [3]) (wp := [3, 4]) (passes_of rfl) rfl (pfi_range2 rfl (T.free 49) (pf_cons (pf_int) (pf_cons (pf_ix fix_d (pf_var 0) (pf_int)) (pf_nil)))) (pfg_nm sc.nd) (pfs_cons (pfs_set (i := 4) sc.nd (pf_lst (pf_nil)))
    (pfs_cons (pfs_expr (pf_callD (ok__law_e_turned_on T 16) (hr.mono (by decide)) (fun σ => passAt (takes_of rfl rfl rfl rfl) σ) (pf_cons (pf_var 0) (pf_cons (pf_tup (pf_cons (pf_var 3) (pf_nil))) (pf_cons (pf_int) (pf_cons (pf_var 4) (pf_nil)))))))
    (pfs_one (pfs_if (pft_cmp (fop_eq hr.u64) (pf_var 4) (pf_lst (pf_nil)) (nomark _)) (pfs_one (pfs_ret (pf_bl))) (pfs_nil))))))
    (pfs_one (pfs_ret (pf_bl)))))
theorem sc_is_whole : FnScope ["thing"] ["thing"] (defScope s_is_whole) := ⟨rfl, rfl, rfl, by decide +kernel, rfl, by decide +kernel, by decide +kernel⟩
theorem ok_is_whole (T : TxOk fa fn K mg base) : Df P w K mg base "is_whole" 1 ["thing"] [false] m_is_whole := by
  refine dfOk (bd := b_is_whole) T 15 15 sc_is_whole (by decide) (fun _ _ _ _ _ _ us hl => match us, hl with | [_], _ => rfl) ?_
  intro f cdv A outer s H vs E hr
  have sc := sc_is_whole
  exact pfs_one (pfs_ret (pf_and (pf_isinst .int (pf_var 0) (T.free 52) (T.free 53) bb_int) (pf_one (pf_not (pf_isinst .bool (pf_var 0) (T.free 52) (T.free 54) bb_bool)))))
theorem sc_is_below : FnScope ["thing", "many"] ["thing", "many"] (defScope s_is_below) := ⟨rfl, rfl, rfl, by decide +kernel, rfl, by decide +kernel, by decide +kernel⟩
theorem ok_is_below (T : TxOk fa fn K mg base) : Df P w K mg base "is_below" 2 ["thing", "many"] [false, false] m_is_below := by
  refine dfOk (bd := b_is_below) T 16 16 sc_is_below (by decide) (fun _ _ _ _ _ _ us hl => match us, hl with | [_, _], _ => rfl) ?_
  intro f cdv A outer s H vs E hr
  have sc := sc_is_below
  exact pfs_one (pfs_ret (pf_and (pf_callD (ok_is_whole T) (hr.mono (by decide)) (fun σ => passAt (takes_of rfl rfl rfl rfl) σ) (pf_cons (pf_var 0) (pf_nil))) (pf_one (pf_chain fop_le (fop_lt hr.units0) (pf_int) (pf_var 0) (pf_var 1)))))
theorem sc_is_rising : FnScope ["row", "k"] ["row"] (defScope s_is_rising) := ⟨rfl, rfl, rfl, by decide +kernel, rfl, by decide +kernel, by decide +kernel⟩
theorem ok_is_rising (T : TxOk fa fn K mg base) : Df P w K mg base "is_rising" 1 ["row"] [false] m_is_rising := by
  refine dfOk (bd := b_is_rising) T 17 17 sc_is_rising (by decide) (fun _ _ _ _ _ _ us hl => match us, hl with | [_], _ => rfl) ?_
  intro f cdv A outer s H vs E hr
  have sc := sc_is_rising
  exact pfs_one (pfs_ret (pf_blt (fb_all rfl) (T.free 50) bb_all (pf_cons (pf_lc (own := [("k", 1)]) rfl sc.nd (pfi_range1 rfl (T.free 49) (pf_cons (pf_op fop_sub (pf_blt fb_len (T.free 47) bb_len (pf_cons (pf_var 0) (pf_nil))) (pf_int)) (pf_nil))) (blkOk_by (by rfl)) (fun s H C cl fp => pfg_nm sc.nd) (fun s H C cl fp => pfts_nil) (fun s H C cl fp => pf_cmp (fop_lt hr.units0) (pf_ix fix_d (pf_var 0) (pf_var 1)) (pf_ix fix_d (pf_var 0) (pf_op fop_add (pf_var 1) (pf_int))) (nomark _))) (pf_nil))))
theorem sc_is_tie : FnScope ["n", "thing"] ["n", "thing"] (defScope s_is_tie) := ⟨rfl, rfl, rfl, by decide +kernel, rfl, by decide +kernel, by decide +kernel⟩
theorem ok_is_tie (T : TxOk fa fn K mg base) : Df P w K mg base "is_tie" 3 ["n", "thing"] [false, false] m_is_tie := by
  refine dfOk (bd := b_is_tie) T 18 18 sc_is_tie (by decide) (fun _ _ _ _ _ _ us hl => match us, hl with | [_, _], _ => rfl) ?_
  intro f cdv A outer s H vs E hr
  have sc := sc_is_tie
  exact pfs_cons (pfs_if (pft_W (pfw_or (pft_not (pft_B (pf_isinst .tuple (pf_var 1) (T.free 52) (T.free 46) bb_tuple))) (pfw_or1 (pft_cmp (fop_ne hr.u64) (pf_blt fb_len (T.free 47) bb_len (pf_cons (pf_var 1) (pf_nil))) (pf_int) (nomark _))))) (pfs_one (pfs_ret (pf_bl))) (pfs_nil))
    (pfs_one (pfs_ret (pf_and (pf_callD (ok_is_below T) (hr.mono (by decide)) (fun σ => passAt (takes_of rfl rfl rfl rfl) σ) (pf_cons (pf_ix fix_d (pf_var 1) (pf_int)) (pf_cons (pf_var 0) (pf_nil)))) (pf_and (pf_callD (ok_is_below T) (hr.mono (by decide)) (fun σ => passAt (takes_of rfl rfl rfl rfl) σ) (pf_cons (pf_ix fix_d (pf_var 1) (pf_int)) (pf_cons (pf_var 0) (pf_nil)))) (pf_one (pf_cmp (fop_lt hr.units0) (pf_ix fix_d (pf_var 1) (pf_int)) (pf_ix fix_d (pf_var 1) (pf_int)) (nomark _)))))))
theorem sc_are_ties : FnScope ["n", "thing", "tie"] ["n", "thing"] (defScope s_are_ties) := ⟨rfl, rfl, rfl, by decide +kernel, rfl, by decide +kernel, by decide +kernel⟩
theorem ok_are_ties (T : TxOk fa fn K mg base) : Df P w K mg base "are_ties" 4 ["n", "thing"] [false, false] m_are_ties := by
  refine dfOk (bd := b_are_ties) T 19 19 sc_are_ties (by decide) (fun _ _ _ _ _ _ us hl => match us, hl with | [_, _], _ => rfl) ?_
  intro f cdv A outer s H vs E hr
  have sc := sc_are_ties
  exact pfs_cons (pfs_if (pft_W (pfw_or (pft_not (pft_B (pf_isinst .tuple (pf_var 1) (T.free 52) (T.free 46) bb_tuple))) (pfw_or1 (pft_not (pft_B (pf_blt (fb_all rfl) (T.free 50) bb_all (pf_cons (pf_lc (own := [("tie", 2)]) rfl sc.nd (pfi_seq (pf_var 1)) (blkOk_by (by rfl)) (fun s H C cl fp => pfg_nm sc.nd) (fun s H C cl fp => pfts_nil) (fun s H C cl fp => pf_callD (ok_is_tie T) (hr.mono (by decide)) pass0At (pf_cons (pf_var 0) (pf_cons (pf_var 2) (pf_nil))))) (pf_nil)))))))) (pfs_one (pfs_ret (pf_bl))) (pfs_nil))
    (pfs_one (pfs_ret (pf_callD (ok_is_rising T) (hr.mono (by decide)) (fun σ => passAt (takes_of rfl rfl rfl rfl) σ) (pf_cons (pf_var 1) (pf_nil)))))
theorem sc_is_web : FnScope ["thing"] ["thing"] (defScope s_is_web) := ⟨rfl, rfl, rfl, by decide +kernel, rfl, by decide +kernel, by decide +kernel⟩
theorem ok_is_web (T : TxOk fa fn K mg base) : Df P w K mg base "is_web" 5 ["thing"] [false] m_is_web := by
  refine dfOk (bd := b_is_web) T 20 20 sc_is_web (by decide) (fun _ _ _ _ _ _ us hl => match us, hl with | [_], _ => rfl) ?_
  intro f cdv A outer s H vs E hr
  have sc := sc_is_web
  exact pfs_cons (pfs_if (pft_W (pfw_or (pft_not (pft_B (pf_isinst .tuple (pf_var 0) (T.free 52) (T.free 46) bb_tuple))) (pfw_or1 (pft_cmp (fop_ne hr.u64) (pf_blt fb_len (T.free 47) bb_len (pf_cons (pf_var 0) (pf_nil))) (pf_int) (nomark _))))) (pfs_one (pfs_ret (pf_bl))) (pfs_nil))
    (pfs_one (pfs_ret (pf_and (pf_callD (ok_is_below T) (hr.mono (by decide)) (fun σ => passAt (takes_of rfl rfl rfl rfl) σ) (pf_cons (pf_ix fix_d (pf_var 0) (pf_int)) (pf_cons (pf_op fop_add (pf_globI (T.int 42)) (pf_int)) (pf_nil)))) (pf_one (pf_callD (ok_are_ties T) (hr.mono (by decide)) (fun σ => passAt (takes_of rfl rfl rfl rfl) σ) (pf_cons (pf_ix fix_d (pf_var 0) (pf_int)) (pf_cons (pf_ix fix_d (pf_var 0) (pf_int)) (pf_nil))))))))
theorem sc_need_web : FnScope ["web"] ["web"] (defScope s_need_web) := ⟨rfl, rfl, rfl, by decide +kernel, rfl, by decide +kernel, by decide +kernel⟩
theorem ok_need_web (T : TxOk fa fn K mg base) : Df P w K mg base "need_web" 6 ["web"] [false] m_need_web := by
  refine dfOk (bd := b_need_web) T 21 21 sc_need_web (by decide) (fun _ _ _ _ _ _ us hl => match us, hl with | [_], _ => rfl) ?_
  intro f cdv A outer s H vs E hr
  have sc := sc_need_web
  exact pfs_one (pfs_if (pft_not (pft_B (pf_callD (ok_is_web T) (hr.mono (by decide)) (fun σ => passAt (takes_of rfl rfl rfl rfl) σ) (pf_cons (pf_var 0) (pf_nil))))) (pfs_one (pfs_raise rfl (takes_of rfl rfl rfl rfl) (T.glo 40) (T.exc 41))) (pfs_nil))
theorem sc_may_turn : FnScope ["rows", "some", "there", "here", "place", "led"] ["rows", "some", "there"] (defScope s_may_turn) := ⟨rfl, rfl, rfl, by decide +kernel, rfl, by decide +kernel, by decide +kernel⟩
theorem ok_may_turn (T : TxOk fa fn K mg base) : Df P w K mg base "may_turn" 1 ["rows", "some", "there"] [false, false, false] m_may_turn := by
  refine dfOk (bd := b_may_turn) T 22 22 sc_may_turn (by decide) (fun _ _ _ _ _ _ us hl => match us, hl with | [_, _, _], _ => rfl) ?_
  intro f cdv A outer s H vs E hr
  have sc := sc_may_turn
  exact pfs_cons (pfs_set (i := 3) sc.nd (pf_blt fb_len (T.free 47) bb_len (pf_cons (pf_var 1) (pf_nil))))
    (pfs_cons (pfs_if (pft_W (pfw_or (pft_cmp (fop_in hr.u65) (pf_var 2) (pf_var 1) (by rfl)) (pfw_or1 (pft_cmp (fop_ne hr.u64) (pf_mt PySem.F.slot_list_count PySem.F.type_list_count fr_countB (pf_ix fix_d (pf_var 0) (pf_var 2)) (pf_cons (pf_bl) (pf_nil))) (pf_mt PySem.F.slot_list_count PySem.F.type_list_count fr_countB (pf_ix fix_d (pf_var 0) (pf_var 3)) (pf_cons (pf_bl) (pf_nil))) (nomark _))))) (pfs_one (pfs_ret (pf_bl))) (pfs_nil))
    (pfs_one (pfs_ret (pf_blt (fb_all rfl) (T.free 50) bb_all (pf_cons (pf_lc (own := [("place", 4), ("led", 5)]) rfl sc.nd (pfi_enum rfl (T.free 55) (pf_cons (pf_var 1) pf_nil)) (blkOk_by (by rfl)) (fun s H C cl fp => pfg_tup rfl (pfgs_cons (pfg_nm sc.nd) (pfgs_cons (pfg_nm sc.nd) (pfgs_nil))) rfl rfl tp2) (fun s H C cl fp => pfts_nil) (fun s H C cl fp => pf_cmp (fop_eq hr.u64) (pf_ix fix_d (pf_ix fix_d (pf_var 0) (pf_var 4)) (pf_var 3)) (pf_ix fix_d (pf_ix fix_d (pf_var 0) (pf_var 5)) (pf_var 2)) (nomark _))) (pf_nil))))))
theorem sc_go_on : FnScope ["rows", "some", "most", "found", "there"] ["rows", "some", "most", "found"] (defScope s_go_on) := ⟨rfl, rfl, rfl, by decide +kernel, rfl, by decide +kernel, by decide +kernel⟩
theorem ok_go_on (T : TxOk fa fn K mg base) : ∀ n : Nat, Df P w K mg base "go_on" (1 + n) ["rows", "some", "most", "found"] [false, false, false, true] (m_go_on n)
  | 0 => dfNone T 23 23 (fun _ _ _ _ _ _ us hl => match us, hl with | [_, _, _, _], _ => rfl)
  | n + 1 => by
    have ih := ok_go_on T n
    refine dfOk (k := 1 + n) (bd := b_go_on (m_go_on n)) T 23 23 sc_go_on (by decide) (fun _ _ _ _ _ _ us hl => match us, hl with | [_, _, _, _], _ => rfl) ?_
    intro f cdv A outer s H vs E hr
    have sc := sc_go_on
    exact pfs_cons (pfs_if (pft_cmp (fop_eq hr.u64) (pf_blt fb_len (T.free 47) bb_len (pf_cons (pf_var 1) (pf_nil))) (pf_blt fb_len (T.free 47) bb_len (pf_cons (pf_var 0) (pf_nil))) (nomark _)) (pfs_cons (pfs_expr (pf_lm 3 PySem.F.slot_list_append PySem.F.type_list_append fm_append (pf_cons (pf_var 1) (pf_nil)) (pv 3)))
        (pfs_one (pfs_retN))) (pfs_nil))
        (pfs_one (pfs_for (ws := [4]) (wp := [4]) (passes_of rfl) rfl (pfi_range1 rfl (T.free 49) (pf_cons (pf_blt fb_len (T.free 47) bb_len (pf_cons (pf_var 0) (pf_nil))) (pf_nil))) (pfg_nm sc.nd) (pfs_one (pfs_if (pft_W (pfw_and (pft_cmp fop_le (pf_blt fb_len (T.free 47) bb_len (pf_cons (pf_var 3) (pf_nil))) (pf_var 2) (nomark _)) (pfw_and1 (pft_B (pf_callD (ok_may_turn T) (hr.mono (by omega)) (fun σ => passAt (takes_of rfl rfl rfl rfl) σ) (pf_cons (pf_var 0) (pf_cons (pf_var 1) (pf_cons (pf_var 4) (pf_nil))))))))) (pfs_one (pfs_expr (pf_callD ih (hr.mono (Nat.le_refl _)) (fun σ => passAt (takes_of rfl rfl rfl rfl) σ) (pf_cons (pf_var 0) (pf_cons (pf_op fop_add (pf_var 1) (pf_tup (pf_cons (pf_var 4) (pf_nil)))) (pf_cons (pf_var 2) (pf_cons (pf_var 3) (pf_nil)))))))) (pfs_nil)))))
theorem sc_all_places : FnScope ["web"] ["web"] (defScope s_all_places) := ⟨rfl, rfl, rfl, by decide +kernel, rfl, by decide +kernel, by decide +kernel⟩
theorem ok_all_places (T : TxOk fa fn K mg base) : Df P w K mg base "all_places" 1 ["web"] [false] m_all_places := by
  refine dfOk (bd := b_all_places) T 24 24 sc_all_places (by decide) (fun _ _ _ _ _ _ us hl => match us, hl with | [_], _ => rfl) ?_
  intro f cdv A outer s H vs E hr
  have sc := sc_all_places
  exact pfs_one (pfs_ret (pf_tRg1 rfl (T.free 46) (T.free 49) (pf_ix fix_d (pf_var 0) (pf_int))))
theorem sc_rows_of : FnScope ["web", "found", "place", "one", "other"] ["web"] (defScope s_rows_of) := ⟨rfl, rfl, rfl, by decide +kernel, rfl, by decide +kernel, by decide +kernel⟩
theorem ok_rows_of (T : TxOk fa fn K mg base) : Df P w K mg base "rows_of" 2 ["web"] [false] m_rows_of := by
  refine dfOk (bd := b_rows_of) T 25 25 sc_rows_of (by decide) (fun _ _ _ _ _ _ us hl => match us, hl with | [_], _ => rfl) ?_
  intro f cdv A outer s H vs E hr
  have sc := sc_rows_of
  exact pfs_cons (pfs_setLcL (own := [("place", 2)]) rfl sc.nd rfl (pfi_seq (pf_callD (ok_all_places T) (hr.mono (by decide)) (fun σ => passAt (takes_of rfl rfl rfl rfl) σ) (pf_cons (pf_var 0) (pf_nil)))) (blkOk_by (by rfl)) (fun s H C cl fp => pfg_nm sc.nd) (fun s H C cl fp => pfts_nil) (fun s H C cl fp => pf_op fop_mul (pf_lst (pf_cons (pf_bl) (pf_nil))) (pf_ix fix_d (pf_var 0) (pf_int))))
    (pfs_cons (pfs_for (ws := [3, 4]) (wp := [3, 4]) (passes_of rfl) rfl (pfi_seq (pf_ix fix_d (pf_var 0) (pf_int))) (pfg_tup rfl (pfgs_cons (pfg_nm sc.nd) (pfgs_cons (pfg_nm sc.nd) (pfgs_nil))) rfl rfl tp2) (pfs_cons (pfs_setLL 1 3 4 (pf_bl) (pv 1) (pv 3) (pv 4))
    (pfs_one (pfs_setLL 1 4 3 (pf_bl) (pv 1) (pv 4) (pv 3)))))
    (pfs_one (pfs_ret (pf_var 1))))
theorem sc_turnings_in : FnScope ["web", "begin", "most", "found"] ["web", "begin", "most"] (defScope s_turnings_in) := ⟨rfl, rfl, rfl, by decide +kernel, rfl, by decide +kernel, by decide +kernel⟩
theorem ok_turnings_in (T : TxOk fa fn K mg base) : Df P w K mg base "turnings_in" 18 ["web", "begin", "most"] [false, false, false] m_turnings_in := by
  refine dfOk (bd := b_turnings_in) T 26 26 sc_turnings_in (by decide) (fun _ _ _ _ _ _ us hl => match us, hl with | [_, _, _], _ => rfl) ?_
  intro f cdv A outer s H vs E hr
  have sc := sc_turnings_in
  exact pfs_cons (pfs_set (i := 3) sc.nd (pf_lst (pf_nil)))
    (pfs_cons (pfs_expr (pf_callD (ok_go_on T 16) (hr.mono (by decide)) (fun σ => passAt (takes_of rfl rfl rfl rfl) σ) (pf_cons (pf_callD (ok_rows_of T) (hr.mono (by decide)) (fun σ => passAt (takes_of rfl rfl rfl rfl) σ) (pf_cons (pf_var 0) (pf_nil))) (pf_cons (pf_var 1) (pf_cons (pf_var 2) (pf_cons (pf_var 3) (pf_nil)))))))
    (pfs_one (pfs_ret (pf_var 3))))
theorem sc_is_alike_in : FnScope ["web", "place"] ["web"] (defScope s_is_alike_in) := ⟨rfl, rfl, rfl, by decide +kernel, rfl, by decide +kernel, by decide +kernel⟩
theorem ok_is_alike_in (T : TxOk fa fn K mg base) : Df P w K mg base "is_alike_in" 19 ["web"] [false] m_is_alike_in := by
  refine dfOk (bd := b_is_alike_in) T 27 27 sc_is_alike_in (by decide) (fun _ _ _ _ _ _ us hl => match us, hl with | [_], _ => rfl) ?_
  intro f cdv A outer s H vs E hr
  have sc := sc_is_alike_in
  exact pfs_cons (pfs_for (ws := [1]) (wp := [1]) (passes_of rfl) rfl (pfi_range2 rfl (T.free 49) (pf_cons (pf_int) (pf_cons (pf_ix fix_d (pf_var 0) (pf_int)) (pf_nil)))) (pfg_nm sc.nd) (pfs_one (pfs_if (pft_W (pfw_or (pft_not (pft_B (pf_callD (ok_may_turn T) (hr.mono (by decide)) (fun σ => passAt (takes_of rfl rfl rfl rfl) σ) (pf_cons (pf_callD (ok_rows_of T) (hr.mono (by decide)) (fun σ => passAt (takes_of rfl rfl rfl rfl) σ) (pf_cons (pf_var 0) (pf_nil))) (pf_cons (pf_tup (pf_nil)) (pf_cons (pf_var 1) (pf_nil))))))) (pfw_or1 (pft_cmp (fop_eq hr.u64) (pf_callD (ok_turnings_in T) (hr.mono (by decide)) (fun σ => passAt (takes_of rfl rfl rfl rfl) σ) (pf_cons (pf_var 0) (pf_cons (pf_tup (pf_cons (pf_var 1) (pf_nil))) (pf_cons (pf_int) (pf_nil))))) (pf_lst (pf_nil)) (nomark _))))) (pfs_one (pfs_ret (pf_bl))) (pfs_nil))))
    (pfs_one (pfs_ret (pf_bl)))
theorem sc_is_alike : FnScope ["web"] ["web"] (defScope s_is_alike) := ⟨rfl, rfl, rfl, by decide +kernel, rfl, by decide +kernel, by decide +kernel⟩
theorem ok_is_alike (T : TxOk fa fn K mg base) : Df P w K mg base "is_alike" 20 ["web"] [false] m_is_alike := by
  refine dfOk (bd := b_is_alike) T 28 28 sc_is_alike (by decide) (fun _ _ _ _ _ _ us hl => match us, hl with | [_], _ => rfl) ?_
  intro f cdv A outer s H vs E hr
  have sc := sc_is_alike
  exact pfs_cons (pfs_expr (pf_callD (ok_need_web T) (hr.mono (by decide)) (fun σ => passAt (takes_of rfl rfl rfl rfl) σ) (pf_cons (pf_var 0) (pf_nil))))
    (pfs_one (pfs_ret (pf_callD (ok_is_alike_in T) (hr.mono (by decide)) (fun σ => passAt (takes_of rfl rfl rfl rfl) σ) (pf_cons (pf_var 0) (pf_nil)))))
theorem sc_divisor : FnScope ["one", "other"] ["one", "other"] (defScope s_divisor) := ⟨rfl, rfl, rfl, by decide +kernel, rfl, by decide +kernel, by decide +kernel⟩
theorem ok_divisor (T : TxOk fa fn K mg base) : Df P w K mg base "divisor" 1 ["one", "other"] [false, false] m_divisor := by
  refine dfOk (bd := b_divisor) T 29 29 sc_divisor (by decide) (fun _ _ _ _ _ _ us hl => match us, hl with | [_, _], _ => rfl) ?_
  intro f cdv A outer s H vs E hr
  have sc := sc_divisor
  exact pfs_cons (pfs_set (i := 0) sc.nd (pf_blt fb_abs (T.free 56) bb_abs (pf_cons (pf_var 0) (pf_nil))))
    (pfs_cons (pfs_set (i := 1) sc.nd (pf_blt fb_abs (T.free 56) bb_abs (pf_cons (pf_var 1) (pf_nil))))
    (pfs_cons (pfs_while (wp := []) (passes_of rfl) (pft_cmp fop_gt (pf_var 1) (pf_int) (nomark _)) (pfs_one (pfs_par (i := 0) (j := 1) rfl sc.nd (pf_cons (pf_var 1) (pf_cons (pf_op fop_mod (pf_var 0) (pf_var 1)) (pf_nil))))))
    (pfs_one (pfs_ret (pf_var 0)))))
theorem sc_lowest : FnScope ["a", "b", "common"] ["a", "b"] (defScope s_lowest) := ⟨rfl, rfl, rfl, by decide +kernel, rfl, by decide +kernel, by decide +kernel⟩
theorem ok_lowest (T : TxOk fa fn K mg base) : Df P w K mg base "lowest" 2 ["a", "b"] [false, false] m_lowest := by
  refine dfOk (bd := b_lowest) T 30 30 sc_lowest (by decide) (fun _ _ _ _ _ _ us hl => match us, hl with | [_, _], _ => rfl) ?_
  intro f cdv A outer s H vs E hr
  have sc := sc_lowest
  exact pfs_cons (pfs_set (i := 2) sc.nd (pf_callD (ok_divisor T) (hr.mono (by decide)) (fun σ => passAt (takes_of rfl rfl rfl rfl) σ) (pf_cons (pf_var 0) (pf_cons (pf_var 1) (pf_nil)))))
    (pfs_one (pfs_ret (pf_tup (pf_cons (pf_op fop_fdiv (pf_var 0) (pf_var 2)) (pf_cons (pf_op fop_fdiv (pf_var 1) (pf_var 2)) (pf_nil))))))
theorem sc_first_greatest : FnScope ["sets", "most", "some"] ["sets"] (defScope s_first_greatest) := ⟨rfl, rfl, rfl, by decide +kernel, rfl, by decide +kernel, by decide +kernel⟩
theorem ok_first_greatest (T : TxOk fa fn K mg base) : Df P w K mg base "first_greatest" 1 ["sets"] [false] m_first_greatest := by
  refine dfOk (bd := b_first_greatest) T 31 31 sc_first_greatest (by decide) (fun _ _ _ _ _ _ us hl => match us, hl with | [_], _ => rfl) ?_
  intro f cdv A outer s H vs E hr
  have sc := sc_first_greatest
  exact pfs_cons (pfs_set (i := 1) sc.nd (pf_blt (fb_maxL rfl) (T.free 43) bb_max (pf_cons (pf_lc (own := [("some", 2)]) rfl sc.nd (pfi_seq (pf_var 0)) (blkOk_by (by rfl)) (fun s H C cl fp => pfg_nm sc.nd) (fun s H C cl fp => pfts_nil) (fun s H C cl fp => pf_blt fb_len (T.free 47) bb_len (pf_cons (pf_var 2) (pf_nil)))) (pf_nil))))
    (pfs_one (pfs_ret (pf_ix fix_d (pf_lc (own := [("some", 2)]) rfl sc.nd (pfi_seq (pf_var 0)) (blkOk_by (by rfl)) (fun s H C cl fp => pfg_nm sc.nd) (fun s H C cl fp => pfts_one (pft_cmp (fop_eq hr.u64) (pf_blt fb_len (T.free 47) bb_len (pf_cons (pf_var 2) (pf_nil))) (pf_var 1) (nomark _))) (fun s H C cl fp => pf_var 2)) (pf_int))))
theorem sc_full_from : FnScope ["rows", "tied", "chosen", "left", "shut", "found", "at", "place", "later", "one", "ahead"] ["rows", "tied", "chosen", "left", "shut"] (defScope s_full_from) := ⟨rfl, rfl, rfl, by decide +kernel, rfl, by decide +kernel, by decide +kernel⟩
theorem ok_full_from (T : TxOk fa fn K mg base) : ∀ n : Nat, Df P w K mg base "full_from" (0 + n) ["rows", "tied", "chosen", "left", "shut"] [false, false, false, false, false] (m_full_from n)
  | 0 => dfNone T 32 32 (fun _ _ _ _ _ _ us hl => match us, hl with | [_, _, _, _, _], _ => rfl)
  | n + 1 => by
    have ih := ok_full_from T n
    refine dfOk (k := 0 + n) (bd := b_full_from (m_full_from n)) T 32 32 sc_full_from (by decide) (fun _ _ _ _ _ _ us hl => match us, hl with | [_, _, _, _, _], _ => rfl) ?_
    intro f cdv A outer s H vs E hr
    have sc := sc_full_from
    exact pfs_cons (pfs_if (pft_W (pfw_and (pft_cmp (fop_eq hr.u64) (pf_var 3) (pf_lst (pf_nil)) (nomark _)) (pfw_and1 (pft_cmp (fop_eq hr.u64) (pf_var 4) (pf_lst (pf_nil)) (nomark _))))) (pfs_one (pfs_ret (pf_lst (pf_cons (pf_var 2) (pf_nil))))) (pfs_nil))
        (pfs_cons (pfs_set (i := 5) sc.nd (pf_lst (pf_nil)))
        (pfs_cons (pfs_for (ws := [6, 7]) (wp := [6, 7, 8, 9, 10]) (passes_of rfl) rfl (pfi_enum rfl (T.free 55) (pf_cons (pf_var 3) pf_nil)) (pfg_tup rfl (pfgs_cons (pfg_nm sc.nd) (pfgs_cons (pfg_nm sc.nd) (pfgs_nil))) rfl rfl tp2) (pfs_cons (pfs_setLc (own := [("one", 9)]) rfl sc.nd rfl (pfi_seq (pf_sl (pf_var 3) (pfo_some (pf_op fop_add (pf_var 6) (pf_int))) (pfo_none))) (blkOk_by (by rfl)) (fun s H C cl fp => pfg_nm sc.nd) (fun s H C cl fp => pfts_one (pft_cmp (fop_eq hr.u64) (pf_ix fix_d (pf_ix fix_d (pf_var 0) (pf_var 7)) (pf_var 9)) (pf_var 1) (nomark _))) (fun s H C cl fp => pf_var 9))
        (pfs_cons (pfs_setLc (own := [("one", 9)]) rfl sc.nd rfl (pfi_seq (pf_op fop_add (pf_var 4) (pf_sl (pf_var 3) (pfo_none) (pfo_some (pf_var 6))))) (blkOk_by (by rfl)) (fun s H C cl fp => pfg_nm sc.nd) (fun s H C cl fp => pfts_one (pft_cmp (fop_eq hr.u64) (pf_ix fix_d (pf_ix fix_d (pf_var 0) (pf_var 7)) (pf_var 9)) (pf_var 1) (nomark _))) (fun s H C cl fp => pf_var 9))
        (pfs_one (pfs_expr (pf_lm 5 PySem.F.slot_list_extend PySem.F.type_list_extend fm_extend (pf_cons (pf_callD ih (hr.mono (Nat.le_refl _)) (fun σ => passAt (takes_of rfl rfl rfl rfl) σ) (pf_cons (pf_var 0) (pf_cons (pf_var 1) (pf_cons (pf_op fop_add (pf_var 2) (pf_tup (pf_cons (pf_var 7) (pf_nil)))) (pf_cons (pf_var 8) (pf_cons (pf_var 10) (pf_nil))))))) (pf_nil)) (pv 5)))))))
        (pfs_one (pfs_ret (pf_var 5)))))
theorem sc_full_apart_in : FnScope ["web"] ["web"] (defScope s_full_apart_in) := ⟨rfl, rfl, rfl, by decide +kernel, rfl, by decide +kernel, by decide +kernel⟩
theorem ok_full_apart_in (T : TxOk fa fn K mg base) : Df P w K mg base "full_apart_in" 17 ["web"] [false] m_full_apart_in := by
  refine dfOk (bd := b_full_apart_in) T 33 33 sc_full_apart_in (by decide) (fun _ _ _ _ _ _ us hl => match us, hl with | [_], _ => rfl) ?_
  intro f cdv A outer s H vs E hr
  have sc := sc_full_apart_in
  exact pfs_one (pfs_ret (pf_blt fb_sorted (T.free 45) bb_sorted (pf_cons (pf_callD (ok_full_from T 16) (hr.mono (by decide)) (fun σ => passAt (takes_of rfl rfl rfl rfl) σ) (pf_cons (pf_callD (ok_rows_of T) (hr.mono (by decide)) (fun σ => passAt (takes_of rfl rfl rfl rfl) σ) (pf_cons (pf_var 0) (pf_nil))) (pf_cons (pf_bl) (pf_cons (pf_tup (pf_nil)) (pf_cons (pf_bty fb_list (T.free 48) bb_list (pf_cons (pf_callD (ok_all_places T) (hr.mono (by decide)) (fun σ => passAt (takes_of rfl rfl rfl rfl) σ) (pf_cons (pf_var 0) (pf_nil))) (pf_nil))) (pf_cons (pf_lst (pf_nil)) (pf_nil))))))) (pf_nil))))
theorem sc_greatest_apart_in : FnScope ["web"] ["web"] (defScope s_greatest_apart_in) := ⟨rfl, rfl, rfl, by decide +kernel, rfl, by decide +kernel, by decide +kernel⟩
theorem ok_greatest_apart_in (T : TxOk fa fn K mg base) : Df P w K mg base "greatest_apart_in" 18 ["web"] [false] m_greatest_apart_in := by
  refine dfOk (bd := b_greatest_apart_in) T 34 34 sc_greatest_apart_in (by decide) (fun _ _ _ _ _ _ us hl => match us, hl with | [_], _ => rfl) ?_
  intro f cdv A outer s H vs E hr
  have sc := sc_greatest_apart_in
  exact pfs_one (pfs_ret (pf_callD (ok_first_greatest T) (hr.mono (by decide)) (fun σ => passAt (takes_of rfl rfl rfl rfl) σ) (pf_cons (pf_callD (ok_full_apart_in T) (hr.mono (by decide)) (fun σ => passAt (takes_of rfl rfl rfl rfl) σ) (pf_cons (pf_var 0) (pf_nil))) (pf_nil))))
theorem sc_alike_value : FnScope ["web"] ["web"] (defScope s_alike_value) := ⟨rfl, rfl, rfl, by decide +kernel, rfl, by decide +kernel, by decide +kernel⟩
theorem ok_alike_value (T : TxOk fa fn K mg base) : Df P w K mg base "alike_value" 20 ["web"] [false] m_alike_value := by
  refine dfOk (bd := b_alike_value) T 35 35 sc_alike_value (by decide) (fun _ _ _ _ _ _ us hl => match us, hl with | [_], _ => rfl) ?_
  intro f cdv A outer s H vs E hr
  have sc := sc_alike_value
  exact pfs_cons (pfs_expr (pf_callD (ok_need_web T) (hr.mono (by decide)) (fun σ => passAt (takes_of rfl rfl rfl rfl) σ) (pf_cons (pf_var 0) (pf_nil))))
    (pfs_cons (pfs_if (pft_not (pft_B (pf_callD (ok_is_alike_in T) (hr.mono (by decide)) (fun σ => passAt (takes_of rfl rfl rfl rfl) σ) (pf_cons (pf_var 0) (pf_nil))))) (pfs_one (pfs_ret (pf_non))) (pfs_nil))
    (pfs_cons (pfs_if (pft_cmp (fop_eq hr.u64) (pf_ix fix_d (pf_var 0) (pf_int)) (pf_int) (nomark _)) (pfs_one (pfs_ret (pf_tup (pf_cons (pf_int) (pf_cons (pf_int) (pf_nil)))))) (pfs_nil))
    (pfs_one (pfs_ret (pf_callD (ok_lowest T) (hr.mono (by decide)) (fun σ => passAt (takes_of rfl rfl rfl rfl) σ) (pf_cons (pf_ix fix_d (pf_var 0) (pf_int)) (pf_cons (pf_blt fb_len (T.free 47) bb_len (pf_cons (pf_callD (ok_greatest_apart_in T) (hr.mono (by decide)) (fun σ => passAt (takes_of rfl rfl rfl rfl) σ) (pf_cons (pf_var 0) (pf_nil))) (pf_nil))) (pf_nil))))))))
theorem sc__law_e_part : FnScope ["top", "bottom", "one", "other"] ["top", "bottom"] (defScope s__law_e_part) := ⟨rfl, rfl, rfl, by decide +kernel, rfl, by decide +kernel, by decide +kernel⟩
theorem ok__law_e_part (T : TxOk fa fn K mg base) : Df P w K mg base "_law_e_part" 1 ["top", "bottom"] [false, false] m__law_e_part := by
  refine dfOk (bd := b__law_e_part) T 36 36 sc__law_e_part (by decide) (fun _ _ _ _ _ _ us hl => match us, hl with | [_, _], _ => rfl) ?_
  intro f cdv A outer s H vs E hr
  have sc := sc__law_e_part
  exact pfs_cons (pfs_par (i := 2) (j := 3) rfl sc.nd (pf_cons (pf_var 0) (pf_cons (pf_var 1) (pf_nil))))
    (pfs_cons (pfs_while (wp := []) (passes_of rfl) (pft_cmp (fop_ne hr.u64) (pf_var 3) (pf_int) (nomark _)) (pfs_one (pfs_par (i := 2) (j := 3) rfl sc.nd (pf_cons (pf_var 3) (pf_cons (pf_op fop_mod (pf_var 2) (pf_var 3)) (pf_nil))))))
    (pfs_one (pfs_ret (pf_tup (pf_cons (pf_op fop_fdiv (pf_var 0) (pf_var 2)) (pf_cons (pf_op fop_fdiv (pf_var 1) (pf_var 2)) (pf_nil)))))))
theorem sc__law_e_apart_sets : FnScope ["web", "left", "found", "place", "more", "some", "one"] ["web", "left"] (defScope s__law_e_apart_sets) := ⟨rfl, rfl, rfl, by decide +kernel, rfl, by decide +kernel, by decide +kernel⟩
theorem ok__law_e_apart_sets (T : TxOk fa fn K mg base) : Df P w K mg base "_law_e_apart_sets" 2 ["web", "left"] [false, false] m__law_e_apart_sets := by
  refine dfOk (bd := b__law_e_apart_sets) T 37 37 sc__law_e_apart_sets (by decide) (fun _ _ _ _ _ _ us hl => match us, hl with | [_, _], _ => rfl) ?_
  intro f cdv A outer s H vs E hr
  have sc := sc__law_e_apart_sets
  exact pfs_cons (pfs_set (i := 2) sc.nd (pf_lst (pf_cons (pf_tup (pf_nil)) (pf_nil))))
    (pfs_cons (pfs_for (ws := [3]) (wp := [3, 4, 5, 6]) (passes_of rfl) rfl (pfi_seq (pf_var 1)) (pfg_nm sc.nd) (pfs_cons (pfs_setLc (own := [("some", 5)]) rfl sc.nd rfl (pfi_seq (pf_var 2)) (blkOk_by (by rfl)) (fun s H C cl fp => pfg_nm sc.nd) (fun s H C cl fp => pfts_one (pft_not (pft_B (pf_blt (fb_any rfl) (T.free 57) bb_any (pf_cons (pf_lc (own := [("one", 6)]) rfl sc.nd (pfi_seq (pf_var 5)) (blkOk_by (by rfl)) (fun s H C cl fp => pfg_nm sc.nd) (fun s H C cl fp => pfts_nil) (fun s H C cl fp => pf_callD (ok__law_e_tied T) (hr.mono (by decide)) pass0At (pf_cons (pf_var 0) (pf_cons (pf_var 6) (pf_cons (pf_var 3) (pf_nil)))))) (pf_nil)))))) (fun s H C cl fp => pf_op fop_add (pf_var 5) (pf_tup (pf_cons (pf_var 3) (pf_nil)))))
    (pfs_one (pfs_set (i := 2) sc.nd (pf_op fop_add (pf_var 2) (pf_var 4))))))
    (pfs_one (pfs_ret (pf_var 2))))
theorem sc__law_e_right : FnScope ["web", "due", "turn", "found", "told", "most", "one"] ["web"] (defScope s__law_e_right) := ⟨rfl, rfl, rfl, by decide +kernel, rfl, by decide +kernel, by decide +kernel⟩
theorem ok__law_e_right (T : TxOk fa fn K mg base) : Df P w K mg base "_law_e_right" 21 ["web"] [false] m__law_e_right := by
  refine dfOk (bd := b__law_e_right) T 38 38 sc__law_e_right (by decide) (fun _ _ _ _ _ _ us hl => match us, hl with | [_], _ => rfl) ?_
  intro f cdv A outer s H vs E hr
  have sc := sc__law_e_right
  exact pfs_cons (pfs_if (pft_W (pfw_and (pft_cmp fop_gt (pf_ix fix_d (pf_var 0) (pf_int)) (pf_int) (nomark _)) (pfw_and1 (pft_cmp (fop_in hr.u65) (pf_blt fb_len (T.free 47) bb_len (pf_cons (pf_ix fix_d (pf_var 0) (pf_int)) (pf_nil))) (pf_lst (pf_cons (pf_int) (pf_cons (pf_op fop_fdiv (pf_op fop_mul (pf_ix fix_d (pf_var 0) (pf_int)) (pf_op fop_sub (pf_ix fix_d (pf_var 0) (pf_int)) (pf_int))) (pf_int)) (pf_nil)))) (by rfl))))) (pfs_one (pfs_ret (pf_bl))) (pfs_nil))
    (pfs_cons (pfs_set (i := 1) sc.nd (pf_callD (ok__law_e_is_alike T) (hr.mono (by decide)) (fun σ => passAt (takes_of rfl rfl rfl rfl) σ) (pf_cons (pf_var 0) (pf_nil))))
    (pfs_cons (pfs_for (ws := [2]) (wp := [2, 3, 4, 5, 6]) (passes_of rfl) rfl (pfi_range1 rfl (T.free 49) (pf_cons (pf_int) (pf_nil))) (pfg_nm sc.nd) (pfs_cons (pfs_set (i := 3) sc.nd (pf_callD (ok_is_alike T) (hr.mono (by decide)) (fun σ => passAt (takes_of rfl rfl rfl rfl) σ) (pf_cons (pf_var 0) (pf_nil))))
    (pfs_cons (pfs_if (pft_W (pfw_or (pft_not (pft_B (pf_isinst .bool (pf_var 3) (T.free 52) (T.free 54) bb_bool))) (pfw_or1 (pft_cmp (fop_ne hr.u64) (pf_var 3) (pf_var 1) (nomark _))))) (pfs_one (pfs_ret (pf_bl))) (pfs_nil))
    (pfs_cons (pfs_set (i := 4) sc.nd (pf_callD (ok_alike_value T) (hr.mono (by decide)) (fun σ => passAt (takes_of rfl rfl rfl rfl) σ) (pf_cons (pf_var 0) (pf_nil))))
    (pfs_cons (pfs_if (pft_W (pfw_and (pft_not (pft_B (pf_var 1))) (pfw_and1 (pft_cmp fop_isNot (pf_var 4) (pf_non) (nomark _))))) (pfs_one (pfs_ret (pf_bl))) (pfs_nil))
    (pfs_one (pfs_if (pft_B (pf_var 1)) (pfs_cons (pfs_set (i := 5) sc.nd (pf_blt (fb_maxL rfl) (T.free 43) bb_max (pf_cons (pf_lc (own := [("one", 6)]) rfl sc.nd (pfi_seq (pf_callD (ok__law_e_apart_sets T) (hr.mono (by decide)) (fun σ => passAt (takes_of rfl rfl rfl rfl) σ) (pf_cons (pf_var 0) (pf_cons (pf_lRg1 rfl (T.free 48) (T.free 49) (pf_ix fix_d (pf_var 0) (pf_int))) (pf_nil))))) (blkOk_by (by rfl)) (fun s H C cl fp => pfg_nm sc.nd) (fun s H C cl fp => pfts_nil) (fun s H C cl fp => pf_blt fb_len (T.free 47) bb_len (pf_cons (pf_var 6) (pf_nil)))) (pf_nil))))
    (pfs_one (pfs_if (pft_W (pfw_or (pft_not (pft_B (pf_isinst .tuple (pf_var 4) (T.free 52) (T.free 46) bb_tuple))) (pfw_or1 (pft_cmp (fop_ne hr.u64) (pf_var 4) (pf_callD (ok__law_e_part T) (hr.mono (by decide)) (fun σ => passAt (takes_of rfl rfl rfl rfl) σ) (pf_cons (pf_ix fix_d (pf_var 0) (pf_int)) (pf_cons (pf_blt (fb_max2 rfl) (T.free 43) bb_max (pf_cons (pf_int) (pf_cons (pf_var 5) (pf_nil)))) (pf_nil)))) (nomark _))))) (pfs_one (pfs_ret (pf_bl))) (pfs_nil)))) (pfs_nil))))))))
    (pfs_one (pfs_ret (pf_bl)))))
theorem sc_law : FnScope ["script", "cup", "k", "web", "one", "n", "other", "pair", "both"] ["script"] (defScope s_law) := ⟨rfl, rfl, rfl, by decide +kernel, rfl, by decide +kernel, by decide +kernel⟩
theorem lawFn (T : TxOk fa fn K mg base) {f : Addr} {fd : FuncData} (F : FunD K "law" "law" (defArgs s_law) (defBody s_law) (defScope s_law) [] [] f fd) : FnOk P w K mg base (L2.CX P w) 22 f fd ["script"] (liftSp K mg (ioOf [false]) 1 m_law) := by
  refine okF (bd := b_law) (funOf F) sc_law (by decide) ?_
  intro cdv A outer s H vs E hr
  have sc := sc_law
  exact pfs_cons (pfs_set (i := 1) sc.nd (pf_lst (pf_cons (pf_var 0) (pf_cons (pf_int) (pf_cons (pf_int) (pf_nil))))))
    (pfs_cons (pfs_for (ws := [2]) (wp := [2, 3, 4, 5, 6, 7, 8]) (passes_of rfl) rfl (pfi_range1 rfl (T.free 49) (pf_cons (pf_int) (pf_nil))) (pfg_nm sc.nd) (pfs_cons (pfs_if (pft_W (pfw_and (pft_cmp fop_gt (pf_var 2) (pf_int) (nomark _)) (pfw_and1 (pft_cmp fop_ge (pf_ix fix_d (pf_var 1) (pf_int)) (pf_blt fb_len (T.free 47) bb_len (pf_cons (pf_var 0) (pf_nil))) (nomark _))))) (pfs_one (pfs_break)) (pfs_nil))
    (pfs_cons (pfs_set (i := 3) sc.nd (pf_callD (ok__law_e_round_web T) (hr.mono (by decide)) (fun σ => passAt (takes_of rfl rfl rfl rfl) σ) (pf_cons (pf_var 1) (pf_cons (pf_op fop_add (pf_int) (pf_callD (ok__law_e_dip T) (hr.mono (by decide)) (fun σ => passAt (takes_of rfl rfl rfl rfl) σ) (pf_cons (pf_var 1) (pf_cons (pf_int) (pf_nil))))) (pf_nil)))))
    (pfs_cons (pfs_for (ws := [4]) (wp := [4]) (passes_of rfl) rfl (pfi_seq (pf_lst (pf_cons (pf_callD (ok__law_e_web T) (hr.mono (by decide)) (fun σ => passAt (takes_of rfl rfl rfl rfl) σ) (pf_cons (pf_var 1) (pf_cons (pf_int) (pf_nil)))) (pf_cons (pf_var 3) (pf_cons (pf_callD (ok__law_e_bent T) (hr.mono (by decide)) (fun σ => passAt (takes_of rfl rfl rfl rfl) σ) (pf_cons (pf_var 1) (pf_cons (pf_var 3) (pf_nil)))) (pf_nil)))))) (pfg_nm sc.nd) (pfs_one (pfs_if (pft_not (pft_B (pf_callD (ok__law_e_right T) (hr.mono (by decide)) (fun σ => passAt (takes_of rfl rfl rfl rfl) σ) (pf_cons (pf_var 4) (pf_nil))))) (pfs_one (pfs_ret (pf_bl))) (pfs_nil))))
    (pfs_cons (pfs_for (ws := [4]) (wp := [4]) (passes_of rfl) rfl (pfi_seq (pf_lst (pf_cons (pf_callD (ok__law_e_two_rings T) (hr.mono (by decide)) (fun σ => passAt (takes_of rfl rfl rfl rfl) σ) (pf_cons (pf_var 1) (pf_nil))) (pf_cons (pf_callD (ok__law_e_tied_across T) (hr.mono (by decide)) (fun σ => passAt (takes_of rfl rfl rfl rfl) σ) (pf_cons (pf_var 1) (pf_cons (pf_op fop_add (pf_int) (pf_op fop_mul (pf_int) (pf_callD (ok__law_e_dip T) (hr.mono (by decide)) (fun σ => passAt (takes_of rfl rfl rfl rfl) σ) (pf_cons (pf_var 1) (pf_cons (pf_int) (pf_nil)))))) (pf_nil)))) (pf_nil))))) (pfg_nm sc.nd) (pfs_one (pfs_if (pft_not (pft_B (pf_callD (ok__law_e_right T) (hr.mono (by decide)) (fun σ => passAt (takes_of rfl rfl rfl rfl) σ) (pf_cons (pf_callD (ok__law_e_moved T) (hr.mono (by decide)) (fun σ => passAt (takes_of rfl rfl rfl rfl) σ) (pf_cons (pf_var 4) (pf_cons (pf_callD (ok__law_e_order T) (hr.mono (by decide)) (fun σ => passAt (takes_of rfl rfl rfl rfl) σ) (pf_cons (pf_var 1) (pf_cons (pf_ix fix_d (pf_var 4) (pf_int)) (pf_nil)))) (pf_nil)))) (pf_nil))))) (pfs_one (pfs_ret (pf_bl))) (pfs_nil))))
    (pfs_cons (pfs_set (i := 5) sc.nd (pf_op fop_add (pf_int) (pf_callD (ok__law_e_dip T) (hr.mono (by decide)) (fun σ => passAt (takes_of rfl rfl rfl rfl) σ) (pf_cons (pf_var 1) (pf_cons (pf_int) (pf_nil))))))
    (pfs_cons (pfs_par (i := 4) (j := 6) rfl sc.nd (pf_cons (pf_callD (ok__law_e_round_web T) (hr.mono (by decide)) (fun σ => passAt (takes_of rfl rfl rfl rfl) σ) (pf_cons (pf_var 1) (pf_cons (pf_var 5) (pf_nil)))) (pf_cons (pf_callD (ok__law_e_round_web T) (hr.mono (by decide)) (fun σ => passAt (takes_of rfl rfl rfl rfl) σ) (pf_cons (pf_var 1) (pf_cons (pf_var 5) (pf_nil)))) (pf_nil))))
    (pfs_one (pfs_for (ws := [7]) (wp := [7, 8]) (passes_of rfl) rfl (pfi_seq (pf_lst (pf_cons (pf_tup (pf_cons (pf_var 4) (pf_cons (pf_var 6) (pf_nil)))) (pf_cons (pf_tup (pf_cons (pf_var 4) (pf_cons (pf_var 4) (pf_nil)))) (pf_nil))))) (pfg_nm sc.nd) (pfs_cons (pfs_set (i := 8) sc.nd (pf_callD (ok__law_e_side_by_side T) (hr.mono (by decide)) (fun σ => passAt (takes_of rfl rfl rfl rfl) σ) (pf_cons (pf_ix fix_d (pf_var 7) (pf_int)) (pf_cons (pf_ix fix_d (pf_var 7) (pf_int)) (pf_nil)))))
    (pfs_one (pfs_if (pft_not (pft_B (pf_callD (ok__law_e_right T) (hr.mono (by decide)) (fun σ => passAt (takes_of rfl rfl rfl rfl) σ) (pf_cons (pf_callD (ok__law_e_moved T) (hr.mono (by decide)) (fun σ => passAt (takes_of rfl rfl rfl rfl) σ) (pf_cons (pf_var 8) (pf_cons (pf_callD (ok__law_e_order T) (hr.mono (by decide)) (fun σ => passAt (takes_of rfl rfl rfl rfl) σ) (pf_cons (pf_var 1) (pf_cons (pf_ix fix_d (pf_var 8) (pf_int)) (pf_nil)))) (pf_nil)))) (pf_nil))))) (pfs_one (pfs_ret (pf_bl))) (pfs_nil)))))))))))))
    (pfs_one (pfs_ret (pf_bl))))
end
end Lk48
namespace Lk48
open PySem PySem.Spec PyProof.Rows L2 Hs
theorem facts {P : Program} {w : World} {K : PySem.W.Frag} {h : Heap} {mg : Str → Option Value} {f : Addr} (X : K.In h) (G : h.Ns mainGlobals mg) (hfa : mg ("law" : Str) = some (.ref f)) (c : He.SaysD fa fn K) :
    ∃ fd : FuncData, (∀ (s : Shared) (u : Value), BindsTo s fd ⟨[u], []⟩ [("script", u)]) ∧ ∀ base : Heap, K.In base → base.Ns mainGlobals mg → FnOk P w K mg base (L2.CX P w) 22 f fd ["script"] (liftSp K mg (ioOf [false]) 1 m_law) := by
  obtain ⟨fd, F⟩ := c.def_ 39 (d := dOf "law" s_law) rfl
  have T0 : TxOk fa fn K mg h := ⟨c, X, G⟩
  have e := hfa.symm.trans (T0.glo 39)
  cases e
  have b := FunD.bindsA (ps := ["script"]) F fun _ _ _ _ _ _ us hl => match us, hl with | [_], _ => rfl
  refine ⟨fd, fun s u => b s [u] rfl, fun base hX hG => ?_⟩
  exact lawFn ⟨c, hX, hG⟩ F
end Lk48
namespace Lk48
open PySem Hs
local macro_rules
  | `(tactic| sizeOf_list_dec) => `(tactic| first
    | with_reducible refine st_seq ?_ | with_reducible refine st_asg ?_ | with_reducible refine st_cons ?_ | with_reducible refine st_nil ?_ | with_reducible refine st_C ?_ | with_reducible refine st_op ?_
    | with_reducible refine st_var_d ?_ | with_reducible refine st_var_l ?_ | with_reducible refine st_var_ll ?_ | with_reducible refine st_var_dc ?_
    | with_reducible refine st_look_d ?_ | with_reducible refine st_look_top ?_ | with_reducible refine st_look_top_d ?_ | with_reducible refine st_look_own ?_ | with_reducible refine st_look_top_dc ?_ | with_reducible refine st_look_own_dc ?_ | with_reducible refine st_put_d ?_ | with_reducible refine st_put_own ?_ | with_reducible refine st_put_top_l ?_ | with_reducible refine st_put_top_ll ?_ | with_reducible refine st_put_top_dc ?_
    | ((with_reducible refine st_callF ?_ ?_); eq_refl) | with_reducible refine st_call ?_ | with_reducible refine st_putK_nil ?_ | with_reducible refine st_putK_t ?_ | with_reducible refine st_putK_f ?_ | with_reducible refine st_putK_td ?_ | with_reducible refine st_putK_to ?_ | with_reducible refine st_bind_nil ?_ | with_reducible refine st_bind_f ?_ | with_reducible refine st_bind_tt ?_ | with_reducible refine st_bind_td ?_ | with_reducible refine st_bind_to ?_
    | with_reducible refine st_frz_d ?_ | with_reducible refine st_frz_own ?_ | with_reducible refine st_frz_top ?_ | with_reducible refine st_frz_own_ll ?_ | with_reducible refine st_frz_own_dc ?_ | with_reducible refine st_frz_top_ll ?_ | with_reducible refine st_frz_top_dc ?_ | with_reducible refine st_frzAll_nil ?_ | with_reducible refine st_frzAll_cons ?_
    | with_reducible refine st_if ?_ | with_reducible refine st_B ?_ | with_reducible refine st_and ?_ | with_reducible refine st_or ?_ | with_reducible refine st_not ?_ | with_reducible refine st_yes ?_ | with_reducible refine st_isB ?_ | with_reducible refine st_t ?_ | with_reducible refine st_f ?_ | ((with_reducible refine st_iteT ?_ ?_); decide) | ((with_reducible refine st_iteF ?_ ?_); decide)
    | with_reducible refine st_nt ?_ | with_reducible refine st_nf ?_
    | with_reducible refine st_ret ?_ | with_reducible refine st_next ?_ | with_reducible refine st_retN ?_ | with_reducible refine st_drop ?_ | with_reducible refine st_break ?_ | with_reducible refine st_raise ?_
    | with_reducible refine st_out_d ?_ | with_reducible refine st_out_own ?_ | with_reducible refine st_out_top ?_
    | with_reducible refine st_tup ?_ | with_reducible refine st_lst ?_ | with_reducible refine st_un ?_ | with_reducible refine st_blt ?_ | with_reducible refine st_lookAll_nil ?_ | with_reducible refine st_lookAll_cons ?_
    | with_reducible refine st_unp ?_ | with_reducible refine st_par ?_ | with_reducible refine st_setIx ?_ | with_reducible refine st_onL ?_ | with_reducible refine st_for ?_ | with_reducible refine st_wipe_nil ?_ | with_reducible refine st_wipe_cons ?_ | with_reducible refine st_andV ?_ | with_reducible refine st_orV ?_ | with_reducible refine st_notV ?_ | with_reducible refine st_ifE ?_ | with_reducible refine st_chain ?_
    | with_reducible refine st_sl ?_ | with_reducible refine st_noPart ?_ | with_reducible refine st_part ?_ | with_reducible refine st_lc ?_ | with_reducible refine st_lm ?_
    | with_reducible refine st_seqI ?_ | with_reducible refine st_range1 ?_ | with_reducible refine st_range2 ?_ | with_reducible refine st_enum ?_ | with_reducible refine st_zip ?_
    | with_reducible refine st_nm ?_ | with_reducible refine st_tp ?_ | with_reducible refine st_tps_nil ?_ | with_reducible refine st_tps_cons ?_
    | ((with_reducible refine st_mod_i ?_ ?_); (first | decide | omega)) | ((with_reducible refine st_fdiv_i ?_ ?_); decide) 
    | with_reducible refine st_add_i ?_ | with_reducible refine st_sub_i ?_ | with_reducible refine st_neg_i ?_ | with_reducible refine st_eq_i ?_ | with_reducible refine st_ne_i ?_ | with_reducible refine st_eq_str ?_ | with_reducible refine st_ne_str ?_ | with_reducible refine st_eq_b ?_ | with_reducible refine st_ne_b ?_ | with_reducible refine st_lt_i ?_ | with_reducible refine st_le_i ?_ | with_reducible refine st_gt_i ?_ | with_reducible refine st_ge_i ?_
    | with_reducible refine st_is_n ?_ | with_reducible refine st_isNot_n ?_ | with_reducible refine st_is_b ?_ | with_reducible refine st_isNot_b ?_ | ((with_reducible refine st_ix_l (x := ?_) ?_ ?_); rotate_left; eq_refl) | ((with_reducible refine st_ix_t (x := ?_) ?_ ?_); rotate_left; eq_refl) | with_reducible refine st_len_l ?_ | with_reducible refine st_len_t ?_ | with_reducible refine st_len_lit ?_
    | with_reducible refine st_abs ?_ | with_reducible refine st_max2 ?_ | with_reducible refine st_min2 ?_ | with_reducible refine st_int_i ?_ | with_reducible refine st_int_b ?_ | with_reducible refine st_tuple_l ?_ | with_reducible refine st_tuple_t ?_ | with_reducible refine st_list_l ?_ | with_reducible refine st_list_t ?_ | ((with_reducible refine st_isT ?_ ?_); eq_refl) | ((with_reducible refine st_isTT ?_ ?_); eq_refl) | ((with_reducible refine st_isTF ?_ ?_); eq_refl) | ((with_reducible refine st_isNT ?_ ?_); eq_refl) | ((with_reducible refine st_isNF ?_ ?_); eq_refl)
    | with_reducible refine st_rg1 ?_ | with_reducible refine st_rg2 ?_ | with_reducible refine st_enumL ?_ | with_reducible refine st_zipS ?_ | with_reducible refine st_rev_l ?_ | with_reducible refine st_rev_t ?_
    | with_reducible refine st_ne_ll ?_ | with_reducible refine st_ne_lit ?_ | with_reducible refine st_in_pt ?_ | with_reducible refine st_in_pl ?_
    | with_reducible refine st_sl_l ?_ | with_reducible refine st_sl_t ?_
    | ((with_reducible refine st_iteLen ?_ ?_); eq_refl) | ((with_reducible refine st_iteNLen ?_ ?_); eq_refl) | with_reducible refine st_iteBB ?_ | ((with_reducible refine st_iteND ?_ ?_); omega) | ((with_reducible refine st_iteNF ?_ ?_); omega)
    | ((with_reducible refine st_iteT (decide_eq_true ?_) ?_); omega) | ((with_reducible refine st_iteF (decide_eq_false ?_) ?_); omega))
local macro_rules
  | `(tactic| sizeOf_list_dec) => `(tactic| with_reducible refine stepTo ?_)
local macro_rules
  | `(tactic| array_get_dec) => `(tactic| repeat sizeOf_list_dec)
local macro_rules
  | `(tactic| sizeOf_list_dec) => `(tactic| first | with_reducible refine st_ix2_l ?_ | with_reducible refine st_ix2_t ?_ | with_reducible refine st_ix2_s ?_ | with_reducible refine st_ix2_lit ?_ | with_reducible refine st_inK_l ?_ | with_reducible refine st_inK_t ?_ | with_reducible refine st_ninK_l ?_ | with_reducible refine st_ninK_t ?_ | with_reducible refine st_setD ?_ | with_reducible refine st_onDc ?_ | with_reducible refine st_dget2 ?_ | with_reducible refine st_emT ?_ | with_reducible refine st_emD ?_ | with_reducible refine st_disp1 ?_ | with_reducible refine st_disp1k ?_ | with_reducible refine st_range3 ?_ | with_reducible refine st_bor ?_ | with_reducible refine st_borT ?_ | with_reducible refine st_bindT_nil ?_ | with_reducible refine st_bindT_d ?_ | with_reducible refine st_bindT_o ?_ | with_reducible refine st_bindT_t ?_ | with_reducible refine st_toPs_nil ?_ | with_reducible refine st_toPs_d ?_ | with_reducible refine st_toPs_l ?_ | with_reducible refine st_toPs_dc ?_ | with_reducible refine st_tupO ?_ | with_reducible refine st_var_tp ?_ | with_reducible refine st_frz_own_tp ?_ | with_reducible refine st_frz_top_tp ?_ | with_reducible refine st_lmP ?_ | ((with_reducible refine st_onP ?_ ?_); eq_refl) | with_reducible refine st_flat_b ?_ | with_reducible refine st_flat_i ?_)
theorem is_whole_ok {z : Int} {X : XF} {Q : R → S → Prop} (h : ∀ fin, Q (.d (.bool true)) fin) : m_is_whole [.d (.int z)] X Q := by
  unfold m_is_whole b_is_whole
  refine st_sem rfl ?_
  array_get_dec
  exact h _
local macro_rules
  | `(tactic| sizeOf_list_dec) => `(tactic| with_reducible refine is_whole_ok fun _ => ?_)
theorem is_below_ok {z m : Int} {X : XF} {Q : R → S → Prop} (h : ∀ fin, Q (.d (.bool (decide (0 ≤ z ∧ z < m)))) fin) : m_is_below [.d (.int z), .d (.int m)] X Q := by
  unfold m_is_below b_is_below
  refine st_sem rfl ?_
  array_get_dec
  refine st_ite (fun q => ?_) (fun q => ?_)
  · have q := of_decide_eq_true q
    array_get_dec
    rw [show decide (z < m) = decide (0 ≤ z ∧ z < m) by simp [q]]
    exact h _
  · have q := of_decide_eq_false q
    array_get_dec
    rw [show false = decide (0 ≤ z ∧ z < m) by simp [q]]
    exact h _
theorem is_tie_ok {n : Int} {p : Int × Int} (hp : 0 ≤ p.1 ∧ p.1 < p.2 ∧ p.2 < n) {X : XF} {Q : R → S → Prop} (h : ∀ fin, Q (.d (.bool true)) fin) : m_is_tie [.d (.int n), .d (pairD p)] X Q := by
  unfold m_is_tie b_is_tie
  refine st_sem rfl ?_
  array_get_dec
  refine is_below_ok fun fin => ?_
  rw [decide_eq_true (show 0 ≤ p.1 ∧ p.1 < n by omega)]
  array_get_dec
  refine is_below_ok fun fin => ?_
  rw [decide_eq_true (show 0 ≤ p.2 ∧ p.2 < n by omega)]
  array_get_dec
  rw [decide_eq_true hp.2.1]
  exact h _
theorem is_rising_ok {ts : List (Int × Int)} (hs : ts.Pairwise (fun p q => ltPr p q = true)) (hl : ts.length ≤ 1000) {X : XF} {Q : R → S → Prop} (h : ∀ fin, Q (.d (.bool true)) fin) : m_is_rising [.d (.tuple (ts.map pairD))] X Q := by
  unfold m_is_rising b_is_rising
  refine st_sem rfl ?_
  array_get_dec
  rw [List.length_map]
  refine ⟨by unfold lim62; omega, ?_⟩
  array_get_dec
  refine ⟨by rw [rangeD_len]; show _ ≤ 16777216; omega, ?_⟩
  array_get_dec
  refine comp_true (fun x hx kT hk => ?_) ?_
  · obtain ⟨t, ht, rfl⟩ := List.mem_map.mp (show x ∈ (List.range ((ts.length : Int) - 1).toNat).map fun (k : Nat) => PyData.int (0 + (k : Int)) from hx)
    have ht := List.mem_range.mp ht
    have h1 : t < ts.length := by omega
    have h2 : t + 1 < ts.length := by omega
    have g1 : L2.atI (ts.map pairD) (0 + (t : Int)) = some (pairD ts[t]) := by
      rw [Int.zero_add]
      exact L2.atI_nat (by rw [List.getElem?_map, List.getElem?_eq_getElem h1]; rfl)
    have g2 : L2.atI (ts.map pairD) (0 + (t : Int) + 1) = some (pairD ts[t + 1]) := by
      rw [Int.zero_add]
      exact L2.atI_nat (j := t + 1) (by rw [List.getElem?_map, List.getElem?_eq_getElem h2]; rfl)
    array_get_dec
    refine st_ix_t g1 ?_
    array_get_dec
    refine st_ix_t g2 ?_
    array_get_dec
    refine st_lt_t (ns := [ts[t].1, ts[t].2]) (ms := [ts[t + 1].1, ts[t + 1].2]) rfl rfl ?_
    rw [lex_pair, List.pairwise_iff_getElem.mp hs t (t + 1) h1 h2 (Nat.lt_succ_self t)]
    array_get_dec
    exact hk
  · array_get_dec
    refine st_all_true ?_
    array_get_dec
    exact h _
theorem are_ties_ok {n : Int} {ts : List (Int × Int)} (g : Good n ts) {X : XF} {Q : R → S → Prop} (h : ∀ fin, Q (.d (.bool true)) fin) : m_are_ties [.d (.int n), .d (.tuple (ts.map pairD))] X Q := by
  unfold m_are_ties b_are_ties
  refine st_sem rfl ?_
  array_get_dec
  refine ⟨by rw [List.length_map]; have := g.few; show _ ≤ 16777216; omega, ?_⟩
  array_get_dec
  refine comp_true (fun x hx kT hk => ?_) ?_
  · obtain ⟨p, hp, rfl⟩ := List.mem_map.mp hx
    array_get_dec
    refine is_tie_ok (g.ties p hp) fun fin => ?_
    array_get_dec
    exact hk
  · array_get_dec
    refine st_all_true ?_
    array_get_dec
    refine is_rising_ok g.up g.few fun fin => ?_
    array_get_dec
    exact h _
theorem is_web_ok {n : Int} {ts : List (Int × Int)} (g : Good n ts) {X : XF} {Q : R → S → Prop} (h : ∀ fin, Q (.d (.bool true)) fin) : m_is_web [.d (webD n ts)] X Q := by
  unfold m_is_web b_is_web
  refine st_sem rfl ?_
  have h1 := g.n0
  have h2 := g.n10
  array_get_dec
  refine is_below_ok fun fin => ?_
  rw [decide_eq_true (show 0 ≤ n ∧ n < 10 + 1 by omega)]
  array_get_dec
  refine are_ties_ok g fun fin => ?_
  array_get_dec
  exact h _
theorem need_web_ok {n : Int} {ts : List (Int × Int)} (g : Good n ts) {X : XF} {Q : R → S → Prop} (h : ∀ fin, Q (.d .none) fin) : m_need_web [.d (webD n ts)] X Q := by
  unfold m_need_web b_need_web
  refine st_sem rfl ?_
  array_get_dec
  refine is_web_ok g fun fin => ?_
  array_get_dec
  exact h _
theorem stir_ok {c a : Int} (ha0 : 0 ≤ a) (ha : a ≤ 2 ^ 64) {X : XF} {Q : R → S → Prop} (h : ∀ z fin, Q (.d (.int z)) fin) : m__law_e_stir [.d (.int c), .d (.int a)] X Q := by
  unfold m__law_e_stir b__law_e_stir
  refine st_sem rfl ?_
  array_get_dec
  refine st_ite (fun q => ?_) (fun q => ?_)
  · array_get_dec
    exact h _ _
  · array_get_dec
    refine st_mul_i (okM_of 40 40 (by omega) (by decide)) ?_
    array_get_dec
    refine st_mul_i (okM_of 65 40 (by omega) (by decide)) ?_
    array_get_dec
    refine st_mul_i (okM_of 40 40 (by omega) (by omega)) ?_
    array_get_dec
    refine st_mul_i (okM_of 40 65 (by decide) (by omega)) ?_
    array_get_dec
    refine st_mul_i (okM_of 80 65 (by omega) (by omega)) ?_
    array_get_dec
    refine st_mul_i (okM_of 40 40 (by decide) (by omega)) ?_
    array_get_dec
    refine st_mul_i (okM_of 40 40 (by omega) (by omega)) ?_
    array_get_dec
    refine st_mul_i (okM_of 40 40 (by decide) (by omega)) ?_
    array_get_dec
    refine st_mul_i (okM_of 40 40 (by omega) (by decide)) ?_
    array_get_dec
    exact h _ _
theorem dip_ok {ns : List Int} {F : Nat} {xs : List D} {m : Int} (hc : Cup ns (F + 1) xs) (hm : 0 < m) (hm2 : m.natAbs < 2 ^ 8999) {X : XF} {Q : R → S → Prop} (h : ∀ r xs', Cup ns F xs' → 0 ≤ r → r < m → Q (.d (.int r)) [.l xs', .d (.int m)]) :
    m__law_e_dip [.l xs, .d (.int m)] X Q := by
  obtain ⟨a, v, rfl, h0, h1⟩ := hc
  unfold m__law_e_dip b__law_e_dip
  have ok : okD m := okD_of 8999 hm hm2
  refine st_sem rfl ?_
  refine st_join (fun s => ∃ (a' v' : Int) (x2 x3 : SV), s = [.l [litD ns, .int a', .int v'], .d (.int m), x2, x3, .no] ∧ 0 ≤ a' ∧ a' + (F : Int) ≤ 2 ^ 64) ?_ ?_
  · rintro s ⟨a', v', x2, x3, rfl, h0', h1'⟩
    array_get_dec
    refine st_fdiv_i ok ?_
    array_get_dec
    refine ⟨by decide, by simp, ?_⟩
    array_get_dec
    exact h _ _ ⟨a', v' / m, rfl, h0', h1'⟩ (Int.emod_nonneg _ (by omega)) (Int.emod_lt_of_pos _ hm)
  · intro k hk
    array_get_dec
    refine st_ite (fun q => ?_) (fun q => ?_)
    · have last : ∀ c : Int, fSeq (fSetIx 0 (fC (PyData.int 1)) (fOp opAdd (fVar 2) (fC (PyData.int 1)))) (fSetIx 0 (fC (PyData.int 2)) (fCall m__law_e_stir [false, false] (fCons (fVar 3) (fCons (fVar 2) fNil))))
          ⟨k, fun r s => outR r s fun r' s' => Q r' (s'.take 2), fun _ => False, fun _ => False, fun n s => X n (s.take 2)⟩ [.l [litD ns, .int a, .int v], .d (.int m), .d (.int a), .d (.int c), .no] := by
        intro c
        array_get_dec
        refine ⟨by decide, by simp, ?_⟩
        array_get_dec
        refine stir_ok h0 (by omega) fun z fin => ?_
        array_get_dec
        refine ⟨by decide, by simp, ?_⟩
        array_get_dec
        exact hk _ ⟨a + 1, z, _, _, rfl, by omega, by omega⟩
      array_get_dec
      refine st_mul_i (okM_of 40 65 (by decide) (by omega)) ?_
      array_get_dec
      refine st_ite (fun q2 => ?_) (fun q2 => ?_)
      · array_get_dec
        have q2 := of_decide_eq_true q2
        obtain ⟨z, hz⟩ := at_ok h0 q2
        refine st_ix_lit hz ?_
        array_get_dec
        exact last _
      · array_get_dec
        refine st_ite (fun q3 => ?_) (fun q3 => ?_)
        · have q3 := of_decide_eq_true q3
          array_get_dec
          refine st_mul_i (okM_of 40 65 (by decide) (by omega)) ?_
          array_get_dec
          obtain ⟨z, hz⟩ := at_ok (ns := ns) (i := (5 * a + 2) % (ns.length : Int)) (Int.emod_nonneg _ (by omega)) (Int.emod_lt_of_pos _ q3)
          refine st_ix_lit hz ?_
          array_get_dec
          refine st_mul_i (okM_of 65 40 (by omega) (by decide)) ?_
          array_get_dec
          exact last _
        · array_get_dec
          exact last _
    · array_get_dec
      exact hk _ ⟨a, v, _, _, rfl, h0, by omega⟩
theorem eweb_of_ok {ns : List Int} {F : Nat} {xs : List D} {n : Int} (hc : Cup ns (F + 101) xs) (h0 : 0 ≤ n) (h10 : n ≤ 10) {X : XF} {Q : R → S → Prop} (h : ∀ ts xs', Cup ns F xs' → Good n ts → Q (.d (webD n ts)) [.l xs', .d (.int n)]) :
    m__law_e_web_of [.l xs, .d (.int n)] X Q := by
  unfold m__law_e_web_of b__law_e_web_of
  refine st_sem rfl ?_
  array_get_dec
  refine dip_ok (F := F + 100) hc (by decide) (by decide) fun often xs1 hc1 ho0 ho1 => ?_
  array_get_dec
  refine ⟨by unfold lim62; omega, ?_⟩
  array_get_dec
  refine loop_range1 (hi := n) (fun i s => ∃ (ts : List (Int × Int)) (xs : List D), s = [.l xs, .d (.int n), .d (.int often), .l (ts.map pairD), .no, .no] ∧ Cup ns (F + 10 * (10 - i).toNat) xs ∧ (∀ p ∈ ts, 0 ≤ p.1 ∧ p.1 < p.2 ∧ p.2 < n ∧ p.1 < i) ∧ ts.Pairwise (fun p q => ltPr p q = true) ∧ (ts.length : Int) ≤ 10 * i) ?_ ?_ ?_
  · rintro s ⟨ts, xs, rfl, hc, hp, hs, hl⟩
    array_get_dec
    exact h ts xs (hc.less (by omega)) ⟨h0, h10, fun p hm => ⟨(hp p hm).1, (hp p hm).2.1, (hp p hm).2.2.1⟩, hs, by omega⟩
  · rintro i s k hi hin ⟨ts, xs, rfl, hc, hp, hs, hl⟩ hk
    array_get_dec
    refine ⟨by unfold lim62; omega, by unfold lim62; omega, ?_⟩
    array_get_dec
    refine loop_range (lo := i + 1) (hi := n) (fun j s => ∃ (ts : List (Int × Int)) (xs : List D), s = [.l xs, .d (.int n), .d (.int often), .l (ts.map pairD), .d (.int i), .no] ∧ Cup ns (F + 10 * (10 - (i + 1)).toNat + (10 - j).toNat) xs ∧ (∀ p ∈ ts, 0 ≤ p.1 ∧ p.1 < p.2 ∧ p.2 < n ∧ (p.1 < i ∨ p.1 = i ∧ p.2 < j)) ∧ ts.Pairwise (fun p q => ltPr p q = true) ∧ (ts.length : Int) ≤ 10 * i + j) ?_ ?_ ?_
    · rintro s ⟨ts, xs, rfl, hc, hp, hs, hl⟩
      refine hk _ ⟨ts, xs, rfl, hc.less (by omega), fun p hm => ?_, hs, by omega⟩
      obtain ⟨p1, p2, p3, p4⟩ := hp p hm
      exact ⟨p1, p2, p3, by omega⟩
    · rintro j s k2 hj hjn ⟨ts, xs, rfl, hc, hp, hs, hl⟩ hk2
      array_get_dec
      refine dip_ok (F := F + 10 * (10 - (i + 1)).toNat + (10 - (j + 1)).toNat) (hc.less (by omega)) (by decide) (by decide) fun r xs' hc' hr0 hr1 => ?_
      array_get_dec
      refine st_ite (fun q => ?_) (fun q => ?_)
      · array_get_dec
        refine st_append (by rw [List.length_map]; show _ < 16777216; omega) ?_
        array_get_dec
        refine hk2 _ ⟨ts ++ [(i, j)], xs', by rw [List.map_append]; rfl, hc', fun p hm => ?_, ?_, by rw [List.length_append]; simp; omega⟩
        · rcases List.mem_append.mp hm with hm | hm
          · obtain ⟨p1, p2, p3, p4⟩ := hp p hm
            exact ⟨p1, p2, p3, by omega⟩
          · obtain rfl : p = (i, j) := by simpa using hm
            exact ⟨by omega, by show i < j; omega, hjn, .inr ⟨rfl, by show j < j + 1; omega⟩⟩
        · refine List.pairwise_append.mpr ⟨hs, by simp, fun p hm q hq => ?_⟩
          obtain rfl : q = (i, j) := by simpa using hq
          obtain ⟨p1, p2, p3, p4⟩ := hp p hm
          unfold ltPr
          simp only [Bool.or_eq_true, decide_eq_true_eq, Bool.and_eq_true, beq_iff_eq]
          omega
      · array_get_dec
        refine hk2 _ ⟨ts, xs', rfl, hc', fun p hm => ?_, hs, by omega⟩
        obtain ⟨p1, p2, p3, p4⟩ := hp p hm
        exact ⟨p1, p2, p3, by omega⟩
    · refine ⟨ts, xs, rfl, hc.less (by omega), fun p hm => ?_, hs, by omega⟩
      obtain ⟨p1, p2, p3, p4⟩ := hp p hm
      exact ⟨p1, p2, p3, .inl p4⟩
  · exact ⟨[], xs1, rfl, hc1.less (by omega), fun p hm => (nomatch hm), .nil, by simp⟩
theorem e_web_ok {ns : List Int} {F : Nat} {xs : List D} {m : Int} (hc : Cup ns (F + 102) xs) (h0 : 0 ≤ m) (h10 : m ≤ 10) {X : XF} {Q : R → S → Prop} (h : ∀ n ts xs', Cup ns F xs' → Good n ts → n ≤ m → Q (.d (webD n ts)) [.l xs', .d (.int m)]) :
    m__law_e_web [.l xs, .d (.int m)] X Q := by
  unfold m__law_e_web b__law_e_web
  refine st_sem rfl ?_
  array_get_dec
  refine dip_ok (F := F + 101) hc (by omega) (by omega) fun r xs2 hc2 hr0 hr1 => ?_
  array_get_dec
  refine eweb_of_ok (F := F) hc2 hr0 (by omega) fun ts xs3 hc3 g => ?_
  array_get_dec
  exact h r ts xs3 hc3 g (by omega)
/-- pairs of unlike numbers below n, the lesser one first, each once -/
structure Prs (n : Int) (ps : List (Int × Int)) : Prop where
  lt : ∀ p ∈ ps, 0 ≤ p.1 ∧ p.1 < p.2 ∧ p.2 < n
  nd : ps.Nodup
/-- unlike numbers from 0 on, below j -/
structure Bel (j : Int) (is : List Int) : Prop where
  lt : ∀ i ∈ is, 0 ≤ i ∧ i < j
  nd : is.Nodup
  few : is.length ≤ j.toNat
theorem Bel.filter {j : Int} {is : List Int} (h : Bel j is) (p : Int → Bool) : Bel j (is.filter p) := ⟨fun i hi => h.lt i (List.mem_filter.mp hi).1, h.nd.filter _, Nat.le_trans (List.length_filter_le _ _) h.few⟩
theorem Bel.up {j k : Int} {is : List Int} (h : Bel j is) (l : j ≤ k) : Bel k is := ⟨fun i hi => by have := h.lt i hi; omega, h.nd, by have := h.few; omega⟩
theorem bel_range {n : Nat} : Bel (n : Int) (rangeI n) := by
  refine ⟨fun i hi => ?_, ?_, by unfold rangeI; simp⟩
  · obtain ⟨k, hk, rfl⟩ := List.mem_map.mp hi
    have := List.mem_range.mp hk
    omega
  · exact List.pairwise_map.mpr ((List.nodup_range (n := n)).imp fun {a b} h e => h (by omega))
theorem Prs.grow {n j : Int} {ps : List (Int × Int)} {is : List Int} (h : Prs n ps) (hj : ∀ p ∈ ps, p.2 < j) (hb : Bel j is) (hn : j < n) : Prs n (ps ++ is.map fun i => (i, j)) := by
  refine ⟨fun p hp => ?_, List.nodup_append.mpr ⟨h.nd, List.pairwise_map.mpr (hb.nd.imp fun {a b} h e => h (by simpa using e)), fun a ha b hb' => ?_⟩⟩
  · rcases List.mem_append.mp hp with hp | hp
    · exact h.lt p hp
    · obtain ⟨i, hi, rfl⟩ := List.mem_map.mp hp
      have := hb.lt i hi
      exact ⟨this.1, this.2, hn⟩
  · obtain ⟨i, hi, rfl⟩ := List.mem_map.mp hb'
    rintro rfl
    have := hj _ ha
    simp at this
theorem Bel.sub {j : Int} {c is : List Int} (h : Bel j c) (s : is.Sublist c) : Bel j is := ⟨fun i hi => h.lt i (s.subset hi), s.nodup h.nd, Nat.le_trans s.length_le h.few⟩
/-- numbers called otherwise -/
def calls (ls : List Int) (p : Int × Int) : Int × Int := (min (atZ ls p.1) (atZ ls p.2), max (atZ ls p.1) (atZ ls p.2))
theorem atZ_mem {ls : List Int} {i : Int} (h0 : 0 ≤ i) (h1 : i < (ls.length : Int)) : atZ ls i ∈ ls := by
  obtain ⟨k, rfl⟩ := Int.eq_ofNat_of_zero_le h0
  have hk : k < ls.length := by omega
  simp [atZ, List.getD_eq_getElem?_getD, List.getElem?_eq_getElem hk]
theorem atZ_inj {ls : List Int} {i j : Int} (hn : ls.Nodup) (h0 : 0 ≤ i) (h1 : i < (ls.length : Int)) (h2 : 0 ≤ j) (h3 : j < (ls.length : Int)) (e : atZ ls i = atZ ls j) : i = j := by
  obtain ⟨k, rfl⟩ := Int.eq_ofNat_of_zero_le h0
  obtain ⟨l, rfl⟩ := Int.eq_ofNat_of_zero_le h2
  have hk : k < ls.length := by omega
  have hl : l < ls.length := by omega
  simp only [atZ, List.getD_eq_getElem?_getD, Int.toNat_natCast, List.getElem?_eq_getElem hk, List.getElem?_eq_getElem hl, Option.getD_some] at e
  have := (List.getElem_inj hn).mp e
  omega
theorem calls_good {n : Int} {ls : List Int} {ps : List (Int × Int)} (hb : Bel n ls) (hl : (ls.length : Int) = n) (hp : Prs n ps) : (∀ p ∈ ps.map (calls ls), 0 ≤ p.1 ∧ p.1 < p.2 ∧ p.2 < n) ∧ (ps.map (calls ls)).Nodup := by
  refine ⟨fun p hm => ?_, ?_⟩
  · obtain ⟨q, hq, rfl⟩ := List.mem_map.mp hm
    obtain ⟨q1, q2, q3⟩ := hp.lt q hq
    have a1 := hb.lt _ (atZ_mem (ls := ls) (i := q.1) q1 (by omega))
    have a2 := hb.lt _ (atZ_mem (ls := ls) (i := q.2) (by omega) (by omega))
    have ne : atZ ls q.1 ≠ atZ ls q.2 := fun e => by
      have := atZ_inj hb.nd q1 (by omega) (by omega) (by omega) e
      omega
    unfold calls
    simp only
    omega
  · refine List.pairwise_map.mpr ((List.Pairwise.imp_of_mem ?_) hp.nd)
    intro p q hpm hqm hne e
    obtain ⟨p1, p2, p3⟩ := hp.lt p hpm
    obtain ⟨q1, q2, q3⟩ := hp.lt q hqm
    have e1 : min (atZ ls p.1) (atZ ls p.2) = min (atZ ls q.1) (atZ ls q.2) := congrArg Prod.fst e
    have e2 : max (atZ ls p.1) (atZ ls p.2) = max (atZ ls q.1) (atZ ls q.2) := congrArg Prod.snd e
    have cases : (atZ ls p.1 = atZ ls q.1 ∧ atZ ls p.2 = atZ ls q.2) ∨ (atZ ls p.1 = atZ ls q.2 ∧ atZ ls p.2 = atZ ls q.1) := by omega
    rcases cases with ⟨c1, c2⟩ | ⟨c1, c2⟩
    · have i1 := atZ_inj hb.nd p1 (by omega) q1 (by omega) c1
      have i2 := atZ_inj hb.nd (by omega) (by omega) (by omega) (by omega) c2
      exact hne (Prod.ext i1 i2)
    · have i1 := atZ_inj hb.nd p1 (by omega) (by omega) (by omega) c1
      have i2 := atZ_inj hb.nd (by omega) (by omega) q1 (by omega) c2
      omega
theorem erase_map {f : Int → D} : ∀ (l : List Int) (j : Nat), (l.map f).eraseIdx j = (l.eraseIdx j).map f
  | [], j => by simp
  | a :: r, 0 => by simp
  | a :: r, j + 1 => by simp [erase_map r j]
theorem st_pop {kk : D → List D → Prop} {ls : List Int} {j : Int} (h0 : 0 ≤ j) (h1 : j < ls.length) (z2 : j < 2 ^ 63) (h : kk (.int (atZ ls j)) ((ls.eraseIdx j.toNat).map .int)) : mPopAt (ls.map .int) [.int j] kk := by
  obtain ⟨a, rfl⟩ := Int.eq_ofNat_of_zero_le h0
  have ha : a < ls.length := by omega
  refine ⟨h0, z2, ?_⟩
  have e1 : (ls.map PyData.int)[(a : Int).toNat]? = some (.int (atZ ls a)) := by
    simp [atZ, List.getD_eq_getElem?_getD, List.getElem?_eq_getElem ha]
  rw [e1]
  have e2 : (ls.map PyData.int).eraseIdx (a : Int).toNat = (ls.eraseIdx (a : Int).toNat).map .int := erase_map _ _
  rw [e2]
  exact h
theorem Bel.perm {n : Int} {ls ms : List Int} (h : Bel n ls) (p : ms.Perm ls) : Bel n ms := ⟨fun i hi => h.lt i (p.mem_iff.mp hi), p.nodup_iff.mpr h.nd, by rw [p.length_eq]; exact h.few⟩
theorem erase_permI : ∀ (ls : List Int) (a : Nat) (h : a < ls.length), (ls[a] :: ls.eraseIdx a).Perm ls
  | [], a, h => by simp at h
  | x :: r, 0, h => List.Perm.refl _
  | x :: r, a + 1, h => by
    have h2 : a < r.length := by simpa using h
    show (r[a] :: x :: r.eraseIdx a).Perm (x :: r)
    exact (List.Perm.swap _ _ _).trans (List.Perm.cons x (erase_permI r a h2))
theorem pop_perm {ls : List Int} {a : Nat} (h : a < ls.length) : (atZ ls a :: ls.eraseIdx a).Perm ls := by
  have e : atZ ls a = ls[a] := by simp [atZ, List.getD_eq_getElem?_getD, List.getElem?_eq_getElem h]
  rw [e]
  exact erase_permI ls a h
theorem all_places_ok {n : Int} {ts : List (Int × Int)} (g : Good n ts) {X : XF} {Q : R → S → Prop} (h : ∀ fin, Q (.d (.tuple ((rangeI n.toNat).map .int))) fin) : m_all_places [.d (webD n ts)] X Q := by
  unfold m_all_places b_all_places
  have h0 := g.n0
  have h1 := g.n10
  refine st_sem rfl ?_
  array_get_dec
  refine ⟨⟨by omega, by omega, by omega, by omega, by omega⟩, ?_⟩
  rw [rangeD_map]
  array_get_dec
  exact h _
theorem cut_to {α : Type} {f : α → D} {ks : List α} {i : Nat} : slD.cutL (ks.map f) none (some (i : Int)) = (ks.take i).map f := by
  unfold slD.cutL
  rw [HT.sIx_none, HT.sIx_nat, List.length_map, Nat.sub_zero, List.drop_zero, ← List.map_take]
  congr 1
  by_cases h : i ≤ ks.length
  · rw [Nat.min_eq_left h]
  · rw [Nat.min_eq_right (by omega), List.take_of_length_le (by omega), List.take_of_length_le (by omega)]
theorem cut_from {α : Type} {f : α → D} {ks : List α} {i : Nat} : slD.cutL (ks.map f) (some (i : Int)) none = (ks.drop i).map f := by
  unfold slD.cutL
  rw [HT.sIx_none, HT.sIx_nat, List.length_map, ← List.map_drop, ← List.map_take]
  congr 1
  by_cases h : i ≤ ks.length
  · rw [Nat.min_eq_left h, List.take_of_length_le (by rw [List.length_drop]; omega)]
  · rw [Nat.min_eq_right (by omega), List.drop_eq_nil_of_le (by omega), List.drop_eq_nil_of_le (by omega), List.take_nil]
theorem enum_map {α : Type} [Inhabited α] {f : α → D} {ks : List α} {i : Nat} (h : i ≤ ks.length) : enumD ((ks.take i).map f) = (List.range i).map fun (j : Nat) => .tuple [.int (j : Int), f (ks.getD j default)] := by
  unfold enumD
  apply List.ext_getElem
  · simp; omega
  · intro n h1 h2
    have h3 : n < i := by simpa using h2
    simp [List.getElem?_eq_getElem (show n < ks.length by omega)]
theorem enum_ints {ks : List Int} {i : Nat} (h : i ≤ ks.length) : enumD ((ks.take i).map PyData.int) = (List.range i).map fun (j : Nat) => .tuple [.int (j : Int), .int (atZ ks (j : Int))] := enum_map h
theorem enum_ints' {ks : List Int} : enumD (ks.map PyData.int) = (List.range ks.length).map fun (j : Nat) => .tuple [.int (j : Int), .int (atZ ks (j : Int))] := by
  have h := enum_ints (ks := ks) (i := ks.length) (Nat.le_refl _)
  rw [List.take_length] at h
  exact h
theorem loop_nat {nx bk ct : S → Prop} {rt : R → S → Prop} {xx : XF} {f1 : FS} {fg : FG} {wp : List Nat} {g : Nat → D} {n : Nat} (I : Nat → S → Prop) (hend : ∀ s, I n s → nx s)
    (hstep : ∀ i s (k : S → Prop), i < n → I i s → (∀ s', I (i + 1) s' → k s') → fg (g i) s fun s1 => f1 ⟨fun s2 => k (wipeS s2 wp), rt, fun s2 => wipeK s2 wp nx, fun s2 => k (wipeS s2 wp), xx⟩ s1) {s : S} (h0 : I 0 s) : fLoop fg wp f1 ⟨nx, rt, bk, ct, xx⟩ ((List.range n).map g) s := by
  have go : ∀ (m i : Nat) (s : S), i + m = n → I i s → fLoop fg wp f1 ⟨nx, rt, bk, ct, xx⟩ ((List.range' i m).map g) s := by
    intro m
    induction m with
    | zero => intro i s e h; exact hend s (by rw [Nat.add_zero] at e; rw [← e]; exact h)
    | succ m ih =>
      intro i s e h
      rw [List.range'_succ, List.map_cons]
      exact hstep i s (fLoop fg wp f1 ⟨nx, rt, bk, ct, xx⟩ ((List.range' (i + 1) m).map g)) (by omega) h fun s' h' => ih (i + 1) s' (by omega) h'
  rw [List.range_eq_range']
  exact go n 0 s (by omega) h0
theorem any_int {ks : List Int} {z : Int} : ((ks.map PyData.int).any fun y => PyData.eqv y (.int z)) = decide (z ∈ ks) := by
  rw [List.any_map]
  apply Bool.eq_iff_iff.mpr
  simp only [List.any_eq_true, Function.comp, decide_eq_true_eq]
  constructor
  · rintro ⟨y, h, e⟩
    have e : decide (y = z) = true := by simpa [PyData.eqv] using e
    rw [← of_decide_eq_true e]; exact h
  · intro h; exact ⟨z, h, by simp [PyData.eqv]⟩
theorem st_in_il {ks : List Int} {z : Int} {k : R → Prop} (h : k (.d (.bool (decide (z ∈ ks))))) : cIn (.int z) (.list (ks.map .int)) k := by
  refine st_in_l shaped_int shaped_intsL ?_
  rw [any_int]; exact h
theorem st_in_it {ks : List Int} {z : Int} {k : R → Prop} (h : k (.d (.bool (decide (z ∈ ks))))) : cIn (.int z) (.tuple (ks.map .int)) k := by
  refine st_in_t shaped_int shaped_intsT ?_
  rw [any_int]; exact h
theorem st_notIn_il {ks : List Int} {z : Int} {k : R → Prop} (h : k (.d (.bool (!decide (z ∈ ks))))) : cNotIn (.int z) (.list (ks.map .int)) k := by
  refine st_notIn_l shaped_int shaped_intsL ?_
  rw [any_int]; exact h
theorem st_notIn_it {ks : List Int} {z : Int} {k : R → Prop} (h : k (.d (.bool (!decide (z ∈ ks))))) : cNotIn (.int z) (.tuple (ks.map .int)) k := by
  refine st_notIn_t shaped_int shaped_intsT ?_
  rw [any_int]; exact h
theorem atZ_in {ks : List Int} {i : Nat} (h : i < ks.length) : atZ ks (i : Int) ∈ ks := by
  simp [atZ, List.getD_eq_getElem?_getD, List.getElem?_eq_getElem h]
local macro_rules
  | `(tactic| sizeOf_list_dec) => `(tactic| first | with_reducible refine st_in_il ?_ | with_reducible refine st_in_it ?_ | with_reducible refine st_notIn_il ?_ | with_reducible refine st_notIn_it ?_ | with_reducible refine st_ne_ll ?_)
noncomputable def dec (P : Prop) : Bool := @decide P (Classical.propDecidable P)
theorem dec_t {P : Prop} (h : P) : dec P = true := by unfold dec; simp [h]
theorem dec_f {P : Prop} (h : ¬ P) : dec P = false := by unfold dec; simp [h]
def Up (ps : List (Int × Int)) : Prop := ps.Pairwise (fun p q => ltPr p q = true)
theorem ltPr_iff {p q : Int × Int} : ltPr p q = true ↔ p.1 < q.1 ∨ p.1 = q.1 ∧ p.2 < q.2 := by
  unfold ltPr
  simp only [Bool.or_eq_true, decide_eq_true_eq, Bool.and_eq_true, beq_iff_eq]
theorem Up.nodup {ps : List (Int × Int)} (h : Up ps) : ps.Nodup := h.imp fun {a b} h e => by
  subst e
  have := ltPr_iff.mp h
  omega
/-- the rows gone through up to (i, j): just the pairs for which f says yes -/
structure Upto (n : Int) (f : Int → Int → Prop) (i j : Int) (ts : List (Int × Int)) : Prop where
  up : Up ts
  mem : ∀ p, p ∈ ts ↔ 0 ≤ p.1 ∧ p.1 < p.2 ∧ p.2 < n ∧ f p.1 p.2 ∧ (p.1 < i ∨ p.1 = i ∧ p.2 < j)
  few : (ts.length : Int) ≤ 10 * i + j
theorem Upto.start {n : Int} {f : Int → Int → Prop} : Upto n f 0 0 [] := ⟨.nil, fun p => ⟨fun h => (nomatch h), fun ⟨h1, h2, h3, h4, h5⟩ => by omega⟩, by simp⟩
theorem Upto.row {n i : Int} {f : Int → Int → Prop} {ts : List (Int × Int)} (hi : 0 ≤ i) (h : Upto n f i 0 ts) : Upto n f i (i + 1) ts := ⟨h.up, fun p => by
  rw [h.mem]
  constructor
  · rintro ⟨h1, h2, h3, h4, h5⟩; exact ⟨h1, h2, h3, h4, by omega⟩
  · rintro ⟨h1, h2, h3, h4, h5⟩; exact ⟨h1, h2, h3, h4, by omega⟩, by have := h.few; omega⟩
theorem Upto.no {n i j : Int} {f : Int → Int → Prop} {ts : List (Int × Int)} (h : Upto n f i j ts) (hf : ¬ f i j) : Upto n f i (j + 1) ts := ⟨h.up, fun p => by
  rw [h.mem]
  constructor
  · rintro ⟨h1, h2, h3, h4, h5⟩; exact ⟨h1, h2, h3, h4, by omega⟩
  · rintro ⟨h1, h2, h3, h4, h5⟩
    refine ⟨h1, h2, h3, h4, ?_⟩
    by_cases e : p.1 = i ∧ p.2 = j
    · rw [e.1, e.2] at h4; exact (hf h4).elim
    · omega, by have := h.few; omega⟩
/-- rising pairs below ten are few -/
theorem up_few {ps : List (Int × Int)} (h : Up ps) (hb : ∀ p ∈ ps, 0 ≤ p.1 ∧ p.1 < 10 ∧ 0 ≤ p.2 ∧ p.2 < 10) : ps.length ≤ 100 := by
  have go : ∀ (l : List Nat), l.Pairwise (· < ·) → (∀ x ∈ l, x < 100) → ∀ m, (∀ x ∈ l, m ≤ x) → m ≤ 100 → l.length + m ≤ 100 := by
    intro l
    induction l with
    | nil => intro _ _ m _ h; simpa using h
    | cons a l ih =>
      intro hp hx m hm _
      obtain ⟨h1, h2⟩ := List.pairwise_cons.mp hp
      have := ih h2 (fun x hx' => hx x (List.mem_cons_of_mem _ hx')) (a + 1) (fun x hx' => h1 x hx') (by have := hx a List.mem_cons_self; omega)
      have := hm a List.mem_cons_self
      rw [List.length_cons]
      omega
  have h2 : (ps.map fun p => (p.1 * 10 + p.2).toNat).Pairwise (· < ·) := by
    refine List.pairwise_map.mpr (List.Pairwise.imp_of_mem ?_ h)
    intro a b ha hb' hab
    have h1 := hb a ha
    have h2 := hb b hb'
    have h3 := ltPr_iff.mp hab
    omega
  have := go _ h2 (fun x hx => by
    obtain ⟨p, hp, rfl⟩ := List.mem_map.mp hx
    have := hb p hp
    omega) 0 (fun _ _ => Nat.zero_le _) (by decide)
  simpa using this
theorem good_few {n : Int} {ts : List (Int × Int)} (g : Good n ts) : ts.length ≤ 100 := up_few g.up fun p hp => by have := g.ties p hp; have := g.n10; omega
theorem rangeI_up {n : Nat} : (rangeI n).Pairwise (· < ·) := List.pairwise_map.mpr ((List.pairwise_lt_range (n := n)).imp fun {a b} h => by omega)
theorem range_nd {n : Nat} : (rangeI n).Nodup := rangeI_up.imp fun {a b} h => by omega
theorem st_notIn_pt {ts : List (Int × Int)} {a b : Int} {k : R → Prop} (h : k (.d (.bool (!decide ((a, b) ∈ ts))))) : cNotIn (.tuple [.int a, .int b]) (.tuple (ts.map pairD)) k := by
  refine st_notIn_t (shaped_pairD (p := (a, b))) shaped_pairs ?_
  rw [show (PyData.tuple [.int a, .int b]) = pairD (a, b) from rfl, any_pair]
  exact h
local macro_rules
  | `(tactic| sizeOf_list_dec) => `(tactic| with_reducible refine st_notIn_pt ?_)
/-- a set of places -/
structure Set' (n : Int) (ks : List Int) : Prop where
  up : ks.Pairwise (· < ·)
  lt : ∀ z ∈ ks, 0 ≤ z ∧ z < n
theorem Set'.few {n : Int} {ks : List Int} (h : Set' n ks) (h10 : n ≤ 10) : ks.length ≤ 10 := by
  have go : ∀ (l : List Int), l.Pairwise (· < ·) → (∀ x ∈ l, x < 10) → ∀ m : Int, 0 ≤ m → (∀ x ∈ l, m ≤ x) → m ≤ 10 → (l.length : Int) + m ≤ 10 := by
    intro l
    induction l with
    | nil => intro _ _ m _ _ h; simpa using h
    | cons a l ih =>
      intro hp hx m h0 hm _
      obtain ⟨h1, h2⟩ := List.pairwise_cons.mp hp
      have ha := hx a List.mem_cons_self
      have hma := hm a List.mem_cons_self
      have := ih h2 (fun x hx' => hx x (List.mem_cons_of_mem _ hx')) (a + 1) (by omega) (fun x hx' => by have := h1 x hx'; omega) (by omega)
      rw [List.length_cons]
      omega
  have := go ks h.up (fun x hx => by have := h.lt x hx; omega) 0 (by omega) (fun x hx => (h.lt x hx).1) (by omega)
  omega
theorem Set'.sub {n : Int} {ks ls : List Int} (h : Set' n ks) (s : ls.Sublist ks) : Set' n ls := ⟨h.up.sublist s, fun z hz => h.lt z (s.subset hz)⟩
theorem sort_one : ∀ {as bs : List (List Int)}, as.Perm bs → as.Pairwise (fun a b => lexL b a = false) → bs.Pairwise (fun a b => lexL b a = false) → as = bs
  | [], bs, h, _, _ => h.symm.eq_nil.symm
  | a :: as, [], h, _, _ => by cases h.eq_nil
  | a :: as, b :: bs, h, h1, h2 => by
    obtain ⟨p1, p2⟩ := List.pairwise_cons.mp h1
    obtain ⟨q1, q2⟩ := List.pairwise_cons.mp h2
    have e : a = b := by
      rcases List.mem_cons.mp (h.mem_iff.mp List.mem_cons_self) with e | ha
      · exact e
      · rcases List.mem_cons.mp (h.mem_iff.mpr List.mem_cons_self) with e | hb
        · exact e.symm
        · exact lexL_eq (q1 a ha) (p1 b hb)
    subst e
    rw [sort_one h.cons_inv p2 q2]
theorem tupsOf_map : ∀ nss : List (List Int), tupsOf (nss.map tupI) = some nss
  | [] => rfl
  | ns :: nss => by
    show (match tupOf (tupI ns), tupsOf (nss.map tupI) with | some n, some ns => some (n :: ns) | _, _ => none) = _
    rw [tupsOf_map nss, show tupOf (tupI ns) = some ns from intsOf_map' ns]
theorem st_sort_t {nss : List (List Int)} {k : R → Prop} (hne : 2 ≤ nss.length → ∀ ns ∈ nss, ns ≠ []) (h : ∀ mss : List (List Int), mss.Perm nss → mss.Pairwise (fun a b => lexL b a = false) → k (.own (.l (mss.map tupI)))) : bSorted [.list (nss.map tupI)] k := by
  cases nss with
  | nil => exact fun ms hp hs => by rw [hp.eq_nil]; exact h [] (List.Perm.refl _) .nil
  | cons ns nss =>
    show (match pairsOf ((ns :: nss).map tupI) with | some _ => bSortP [.list ((ns :: nss).map tupI)] k | none => bSortT [.list ((ns :: nss).map tupI)] k)
    generalize e0 : (ns :: nss) = all at hne h ⊢
    clear e0
    cases e : pairsOf (all.map tupI) with
    | none =>
      show (match tupsOf (all.map tupI) with
        | some nss => (2 ≤ nss.length → ∀ ns ∈ nss, ns ≠ []) ∧ ∀ mss : List (List Int), mss.Perm nss → mss.Pairwise (fun a b => lexL b a = false) → k (.own (.l (mss.map tupI)))
        | none => False)
      rw [tupsOf_map]
      exact ⟨hne, h⟩
    | some ps =>
      show (match pairsOf (all.map tupI) with | some ps => ∀ qs : List (Int × Int), qs.Perm ps → qs.Pairwise (fun p q => ltPr q p = false) → k (.own (.l (qs.map pairD))) | none => False)
      rw [e]
      intro qs hp hs
      have e1 := pairsOf_eq e
      have inj : ∀ {as bs : List (List Int)}, as.map tupI = bs.map tupI → as = bs := fun {as bs} h => by
        have := congrArg tupsOf h
        rw [tupsOf_map, tupsOf_map] at this
        exact Option.some.inj this
      have e2 : all = ps.map fun p => [p.1, p.2] := inj (by
        rw [e1, List.map_map]
        rfl)
      have e3 : qs.map pairD = (qs.map fun p => [p.1, p.2]).map tupI := by rw [List.map_map]; rfl
      rw [e3]
      refine h _ (by rw [e2]; exact hp.map _) ?_
      rw [List.pairwise_map]
      refine hs.imp fun {p q} hpq => ?_
      have : ¬ (q.1 < p.1 ∨ q.1 = p.1 ∧ q.2 < p.2) := fun hc => by
        unfold ltPr at hpq
        simp only [Bool.or_eq_false_iff, Bool.and_eq_false_iff, decide_eq_false_iff_not, beq_eq_false_iff_ne, ne_eq] at hpq
        omega
      rw [lexL_cons, lexL_cons]
      by_cases a : q.1 = p.1
      · rw [if_pos a]
        by_cases b : q.2 = p.2
        · rw [if_pos b]; rfl
        · rw [if_neg b]
          exact decide_eq_false (by omega)
      · rw [if_neg a]
        exact decide_eq_false (by omega)
theorem st_eq_ll {ns ms : List Int} {k : R → Prop} (h : k (.d (.bool (decide (ns = ms))))) : cEq (.list (ns.map .int)) (.list (ms.map .int)) k := by
  refine st_eq (x := .list (ns.map .int)) (y := .list (ms.map .int)) shaped_intsL shaped_intsL ?_
  show k (.d (.bool (PyData.eqvAll (ns.map .int) (ms.map .int))))
  rw [eqv_ints]
  exact h
theorem st_lcK {it : FI} {fg : FG} {wp : List Nat} {t : FT} {e : FE} {X : XF} {s : S} {Q : R → S → Prop} (h : it X s fun xs s1 => xs.length ≤ sizeLine ∧ wipeK s1 wp fun s2 => fCompL (fun _ _ => False) fg wp t e Q xs [] s2) : fLcL it fg wp t e X s Q := h
local macro_rules
  | `(tactic| sizeOf_list_dec) => `(tactic| first | with_reducible refine st_lcK ?_ | with_reducible refine st_rowOf ?_)
def mat (n : Nat) (f : Int → Int → Bool) : List (List D) := (rangeI n).map fun i => (rangeI n).map fun j => PyData.bool (f i j)
def Tb (ts : List (Int × Int)) (a b : Int) : Bool := decide ((min a b, max a b) ∈ ts)
theorem Tb_symm {ts : List (Int × Int)} {a b : Int} : Tb ts a b = Tb ts b a := by
  unfold Tb
  rw [Int.min_comm, Int.max_comm]
theorem rangeI_get {n k : Nat} (h : k < n) : (rangeI n)[k]? = some (k : Int) := by
  unfold rangeI
  simp [h]
theorem rangeI_at {n k : Nat} (h : k < (rangeI n).length) : (rangeI n)[k] = (k : Int) := (List.getElem?_eq_some_iff.mp (rangeI_get (by rw [rangeI_len] at h; exact h))).2
theorem mat_len {n : Nat} {f : Int → Int → Bool} : (mat n f).length = n := by unfold mat; rw [List.length_map, rangeI_len]
theorem mat_at {n k : Nat} {f : Int → Int → Bool} (h : k < (mat n f).length) : (mat n f)[k] = (rangeI n).map fun j => PyData.bool (f k j) := by
  have hk : k < n := by rw [mat_len] at h; exact h
  have e : (mat n f)[k]? = some ((rangeI n).map fun j => PyData.bool (f k j)) := by
    unfold mat
    rw [List.getElem?_map, rangeI_get hk]
    rfl
  exact (List.getElem?_eq_some_iff.mp e).2
theorem mat_getD {n k : Nat} {f : Int → Int → Bool} (h : k < n) : (mat n f).getD k [] = (rangeI n).map fun j => PyData.bool (f k j) := by
  have h2 : k < (mat n f).length := by rw [mat_len]; exact h
  rw [List.getD_eq_getElem?_getD, List.getElem?_eq_getElem h2, Option.getD_some, mat_at]
theorem mat_set {n i j : Nat} {f : Int → Int → Bool} (hi : i < n) (hj : j < n) : (mat n f).set i (((mat n f).getD i []).set j (.bool true)) = mat n (fun a b => f a b || (decide (a = i) && decide (b = j))) := by
  rw [mat_getD hi]
  apply List.ext_getElem
  · rw [List.length_set, mat_len, mat_len]
  · intro a h1 h2
    have ha : a < n := by rw [mat_len] at h2; exact h2
    rw [List.getElem_set, mat_at, mat_at]
    by_cases e : i = a
    · subst e
      rw [if_pos rfl]
      apply List.ext_getElem
      · rw [List.length_set, List.length_map, List.length_map]
      · intro b h3 h4
        rw [List.getElem_set, List.getElem_map, List.getElem_map, rangeI_at]
        by_cases e2 : j = b
        · subst e2
          rw [if_pos rfl]
          simp
        · rw [if_neg e2]
          have : ¬ ((b : Int) = j) := by omega
          simp [this]
    · rw [if_neg e]
      refine List.map_congr_left fun b hb => ?_
      have : ¬ ((a : Int) = i) := by omega
      simp [this]
theorem Tb_snoc {done : List (Int × Int)} {i j : Int} (h : i < j) : Tb (done ++ [(i, j)]) = fun a b => (Tb done a b || (decide (a = i) && decide (b = j))) || (decide (a = j) && decide (b = i)) := by
  funext a b
  unfold Tb
  rw [Bool.eq_iff_iff]
  simp only [List.mem_append, List.mem_singleton, Prod.mk.injEq, decide_eq_true_eq, Bool.or_eq_true, Bool.and_eq_true]
  constructor
  · rintro (h1 | h1)
    · exact .inl (.inl h1)
    · by_cases hab : a ≤ b
      · exact .inl (.inr (by omega))
      · exact .inr (by omega)
  · rintro ((h1 | h1) | h1)
    · exact .inl h1
    · exact .inr (by omega)
    · exact .inr (by omega)
theorem rows_of_ok {n : Int} {ts : List (Int × Int)} (g : Good n ts) {X : XF} {Q : R → S → Prop} (h : ∀ fin, Q (.own (.ll (mat n.toNat (Tb ts)))) fin) : m_rows_of [.d (webD n ts)] X Q := by
  unfold m_rows_of b_rows_of
  have n0 := g.n0
  have n10 := g.n10
  refine st_sem rfl ?_
  array_get_dec
  refine all_places_ok g fun fin => ?_
  array_get_dec
  refine ⟨by rw [List.length_map, rangeI_len]; show _ ≤ 16777216; omega, ?_⟩
  array_get_dec
  refine compL_list PyData.int (fun i => (rangeI n.toNat).map fun j => PyData.bool (Tb [] i j)) _ (fun i hi kT hkT => ?_) ?_
  · array_get_dec
    refine st_mul_l (xs := [PyData.bool false]) (n := n) (by omega) (by omega) (by show 1 * n.toNat ≤ 16777216; omega) ?_
    array_get_dec
    have e : (List.replicate n.toNat [PyData.bool false]).flatten = (rangeI n.toNat).map fun j => PyData.bool (Tb [] i j) := by
      generalize n.toNat = m
      induction m with
      | zero => rfl
      | succ m ih =>
        have e2 : rangeI (m + 1) = rangeI m ++ [(m : Int)] := by
          unfold rangeI
          rw [List.range_succ, List.map_append]
          rfl
        rw [List.replicate_succ', List.flatten_append, ih, e2, List.map_append]
        rfl
    rw [e]
    exact hkT
  · array_get_dec
    refine loop_list pairD (fun l s => ∃ done, s = [.d (webD n ts), .ll (mat n.toNat (Tb done)), .no, .no, .no] ∧ ts = done ++ l) ?_ ?_ _ _ ⟨[], rfl, rfl⟩
    · rintro s ⟨done, rfl, e⟩
      rw [List.append_nil] at e
      subst e
      array_get_dec
      exact h _
    · rintro p l s k ⟨done, rfl, e⟩ hk
      have hp := g.ties p (by rw [e]; simp)
      obtain ⟨i, j⟩ := p
      obtain ⟨h0, h1, h2⟩ := hp
      simp only at h0 h1 h2
      obtain ⟨a, rfl⟩ := Int.eq_ofNat_of_zero_le h0
      obtain ⟨b, rfl⟩ := Int.eq_ofNat_of_zero_le (show 0 ≤ j by omega)
      array_get_dec
      refine st_setLL ?_
      array_get_dec
      refine ⟨_, _, _, rfl, rfl, rfl, by omega, by rw [mat_len, Int.toNat_natCast]; omega, by omega, by rw [Int.toNat_natCast, mat_getD (by omega), List.length_map, rangeI_len]; omega, ?_⟩
      rw [Int.toNat_natCast, Int.toNat_natCast, mat_set (by omega) (by omega)]
      dsimp only [List.set]
      refine st_setLL ?_
      array_get_dec
      refine ⟨_, _, _, rfl, rfl, rfl, by omega, by rw [mat_len, Int.toNat_natCast]; omega, by omega, by rw [Int.toNat_natCast, mat_getD (by omega), List.length_map, rangeI_len]; omega, ?_⟩
      rw [Int.toNat_natCast, Int.toNat_natCast, mat_set (by omega) (by omega)]
      dsimp only [List.set]
      refine hk _ ⟨done ++ [((a : Int), (b : Int))], ?_, by rw [e]; simp⟩
      rw [Tb_snoc h1]
      rfl
theorem row_at {n : Nat} {f : Int → Int → Bool} {p : Int} (h0 : 0 ≤ p) (h1 : p < n) : L2.atI ((mat n f).map PyData.list) p = some (.list ((rangeI n).map fun j => PyData.bool (f p j))) := by
  obtain ⟨a, rfl⟩ := Int.eq_ofNat_of_zero_le h0
  have h2 : a < (mat n f).length := by rw [mat_len]; omega
  exact L2.atI_nat (by rw [List.getElem?_map, List.getElem?_eq_getElem h2, mat_at]; rfl)
theorem cell_at {n : Nat} {f : Int → Bool} {p : Int} (h0 : 0 ≤ p) (h1 : p < n) : L2.atI ((rangeI n).map fun j => PyData.bool (f j)) p = some (.bool (f p)) := by
  obtain ⟨a, rfl⟩ := Int.eq_ofNat_of_zero_le h0
  have h2 : a < (rangeI n).length := by rw [rangeI_len]; omega
  exact L2.atI_nat (by rw [List.getElem?_map, List.getElem?_eq_getElem h2, rangeI_at]; rfl)
def ff (g : Int → Int → Bool) : Nat → List Int → List Int → List Int → List (List Int)
  | 0, _, _, _ => []
  | n + 1, ch, lf, sh => if lf = [] ∧ sh = [] then [ch] else (List.range lf.length).flatMap fun (i : Nat) => ff g n (ch ++ [atZ lf i]) ((lf.drop (i + 1)).filter (g (atZ lf i))) ((sh ++ lf.take i).filter (g (atZ lf i)))
theorem sum_le {α : Type} {f g : α → Nat} : ∀ {l : List α}, (∀ a ∈ l, f a ≤ g a) → (l.map f).sum ≤ (l.map g).sum
  | [], _ => Nat.le_refl _
  | a :: l, h => by
    rw [List.map_cons, List.map_cons, List.sum_cons, List.sum_cons]
    have := h a List.mem_cons_self
    have := sum_le (l := l) fun b hb => h b (List.mem_cons_of_mem _ hb)
    omega
theorem sum_pow : ∀ L : Nat, ((List.range L).map fun i => 2 ^ (L - 1 - i)).sum + 1 ≤ 2 ^ L
  | 0 => by decide
  | L + 1 => by
    have ih := sum_pow L
    rw [List.range_succ_eq_map, List.map_cons, List.map_map, List.sum_cons]
    have e : ((List.range L).map ((fun i => 2 ^ (L + 1 - 1 - i)) ∘ Nat.succ)) = (List.range L).map fun i => 2 ^ (L - 1 - i) := by
      refine List.map_congr_left fun i hi => ?_
      have := List.mem_range.mp hi
      show 2 ^ (L + 1 - 1 - (i + 1)) = 2 ^ (L - 1 - i)
      rw [show L + 1 - 1 - (i + 1) = L - 1 - i by omega]
    rw [e, show L + 1 - 1 - 0 = L by omega, Nat.pow_succ]
    omega
theorem ff_len {g : Int → Int → Bool} : ∀ (n : Nat) (ch lf sh : List Int), (ff g n ch lf sh).length ≤ 2 ^ lf.length
  | 0, _, _, _ => Nat.zero_le _
  | n + 1, ch, lf, sh => by
    unfold ff
    split
    · exact Nat.one_le_two_pow
    · rw [List.length_flatMap]
      refine Nat.le_trans (sum_le (g := fun i => 2 ^ (lf.length - 1 - i)) fun i hi => ?_) (Nat.le_trans (Nat.le_succ _) (sum_pow lf.length))
      refine Nat.le_trans (ff_len n _ _ _) (Nat.pow_le_pow_right (by decide) ?_)
      have := List.length_filter_le (g (atZ lf i)) (lf.drop (i + 1))
      rw [List.length_drop] at this
      omega
theorem full_from_ok {n : Nat} {f : Int → Int → Bool} {w : Bool} : ∀ (N : Nat) (ch lf sh : List Int), lf.length < N → lf.length + sh.length ≤ 10 → ch.length + lf.length ≤ 10 → (∀ z ∈ lf ++ sh, 0 ≤ z ∧ z < n) → ∀ (X : XF) (Q : R → S → Prop),
    (∀ fin, Q (.own (.l ((ff (fun a b => f a b == w) N ch lf sh).map tupI))) fin) → m_full_from N [.d (.list ((mat n f).map .list)), .d (.bool w), .d (.tuple (ch.map .int)), .d (.list (lf.map .int)), .d (.list (sh.map .int))] X Q
  | 0, _, _, _, h, _, _, _ => by omega
  | N + 1, ch, lf, sh, hN, h10, hc, hz => fun X Q h => by
    show semOf 5 11 (b_full_from (m_full_from N)) _ X Q
    unfold b_full_from
    refine st_sem rfl ?_
    array_get_dec
    refine st_eq_ll (ms := []) ?_
    array_get_dec
    have rest : ¬ (lf = [] ∧ sh = []) → fSeq (fAsg 5 (fLst fNil)) (fSeq (fFor (iEnumL (fCons (fVar 3) fNil)) (gTp [gNm 6, gNm 7]) [6, 7, 8, 9, 10] (fSeq (fAsg 8 (fLc (iSeq (fSl slD (fVar 3) (fPart (fOp opAdd (fVar 6) (fC (.int 1)))) (fNoPart))) (gNm 9) [9] (fB (fOp cEq (fOp ixD (fOp ixD (fVar 0) (fVar 7)) (fVar 9)) (fVar 1))) (fVar 9)))
        (fSeq (fAsg 10 (fLc (iSeq (fOp opAdd (fVar 4) (fSl slD (fVar 3) (fNoPart) (fPart (fVar 6))))) (gNm 9) [9] (fB (fOp cEq (fOp ixD (fOp ixD (fVar 0) (fVar 7)) (fVar 9)) (fVar 1))) (fVar 9)))
        (fDrop (fLm 5 mExtend (fCons (fCall (m_full_from N) [false, false, false, false, false] (fCons (fVar 0) (fCons (fVar 1) (fCons (fOp opAdd (fVar 2) (fTup (fCons (fVar 7) (fNil)))) (fCons (fVar 8) (fCons (fVar 10) (fNil))))))) (fNil)))))))
        (fRet (fVar 5))) ⟨fun s => Q (.d .none) (s.take 5), fun r s => outR r s fun r' s' => Q r' (s'.take 5), fun _ => False, fun _ => False, fun n s => X n (s.take 5)⟩ [.d (.list ((mat n f).map .list)), .d (.bool w), .d (.tuple (ch.map .int)), .d (.list (lf.map .int)), .d (.list (sh.map .int)), .no, .no, .no, .no, .no, .no] := by
      intro hne
      array_get_dec
      rw [enum_ints']
      refine loop_nat (fun i s => s = [.d (.list ((mat n f).map .list)), .d (.bool w), .d (.tuple (ch.map .int)), .d (.list (lf.map .int)), .d (.list (sh.map .int)), .l (((List.range i).flatMap fun (i : Nat) => ff (fun a b => f a b == w) N (ch ++ [atZ lf i]) ((lf.drop (i + 1)).filter fun b => f (atZ lf i) b == w) ((sh ++ lf.take i).filter fun b => f (atZ lf i) b == w)).map tupI), .no, .no, .no, .no, .no] ∧ ((List.range i).flatMap fun (i : Nat) => ff (fun a b => f a b == w) N (ch ++ [atZ lf i]) ((lf.drop (i + 1)).filter fun b => f (atZ lf i) b == w) ((sh ++ lf.take i).filter fun b => f (atZ lf i) b == w)).length ≤ 1024 * i) ?_ ?_ ⟨rfl, Nat.le_refl _⟩
      · rintro s ⟨rfl, -⟩
        array_get_dec
        have e : ff (fun a b => f a b == w) (N + 1) ch lf sh = (List.range lf.length).flatMap fun (i : Nat) => ff (fun a b => f a b == w) N (ch ++ [atZ lf i]) ((lf.drop (i + 1)).filter fun b => f (atZ lf i) b == w) ((sh ++ lf.take i).filter fun b => f (atZ lf i) b == w) := by
          show (if lf = [] ∧ sh = [] then _ else _) = _
          rw [if_neg hne]
        rw [← e]
        exact h _
      · rintro i s k hi ⟨rfl, hl⟩ hk
        have hp := hz (atZ lf i) (List.mem_append_left _ (atZ_in hi))
        have lt1 : (lf.take i).length ≤ 10 := by rw [List.length_take]; omega
        have ld : (lf.drop (i + 1)).length = lf.length - (i + 1) := List.length_drop
        have lt2 : (lf.take i).length = i := by rw [List.length_take]; omega
        have f1 := List.length_filter_le (fun b => f (atZ lf i) b == w) (lf.drop (i + 1))
        have f2 := List.length_filter_le (fun b => f (atZ lf i) b == w) (sh ++ lf.take i)
        rw [List.length_append, lt2] at f2
        array_get_dec
        rw [show (i : Int) + 1 = ((i + 1 : Nat) : Int) by omega, cut_from]
        refine ⟨by rw [List.length_map]; show _ ≤ 16777216; omega, ?_⟩
        array_get_dec
        refine comp_filter PyData.int PyData.int (fun b => f (atZ lf i) b == w) _ (fun z hz2 kT kF hT hF => ?_) ?_
        · have hzz := hz z (List.mem_append_left _ ((List.drop_sublist _ _).subset hz2))
          array_get_dec
          refine st_ix_l (row_at hp.1 hp.2) ?_
          array_get_dec
          refine st_ix_l (cell_at hzz.1 hzz.2) ?_
          array_get_dec
          refine st_ite (fun q => ?_) (fun q => ?_)
          · array_get_dec
            exact hT q
          · exact hF q
        · array_get_dec
          rw [cut_to]
          refine st_add_l (by rw [List.length_map, List.length_map]; show _ ≤ 16777216; omega) ?_
          rw [← List.map_append]
          array_get_dec
          refine ⟨by rw [List.length_map, List.length_append]; show _ ≤ 16777216; omega, ?_⟩
          array_get_dec
          refine comp_filter PyData.int PyData.int (fun b => f (atZ lf i) b == w) _ (fun z hz2 kT kF hT hF => ?_) ?_
          · have hzz : 0 ≤ z ∧ z < n := by
              rcases List.mem_append.mp hz2 with hz2 | hz2
              · exact hz z (List.mem_append_right _ hz2)
              · exact hz z (List.mem_append_left _ ((List.take_sublist _ _).subset hz2))
            array_get_dec
            refine st_ix_l (row_at hp.1 hp.2) ?_
            array_get_dec
            refine st_ix_l (cell_at hzz.1 hzz.2) ?_
            array_get_dec
            refine st_ite (fun q => ?_) (fun q => ?_)
            · array_get_dec
              exact hT q
            · exact hF q
          · array_get_dec
            refine st_add_t (by rw [List.length_map]; show _ + 1 ≤ 16777216; omega) ?_
            rw [show ch.map PyData.int ++ [PyData.int (atZ lf i)] = (ch ++ [atZ lf i]).map PyData.int by simp]
            array_get_dec
            refine full_from_ok N _ _ _ (by omega) (by omega) (by rw [List.length_append, List.length_singleton]; omega) (fun z hz2 => ?_) _ _ fun fin => ?_
            · rcases List.mem_append.mp hz2 with hz2 | hz2
              · exact hz z (List.mem_append_left _ ((List.drop_sublist _ _).subset (List.mem_filter.mp hz2).1))
              · rcases List.mem_append.mp (List.mem_filter.mp hz2).1 with hz2 | hz2
                · exact hz z (List.mem_append_right _ hz2)
                · exact hz z (List.mem_append_left _ ((List.take_sublist _ _).subset hz2))
            · have bl := ff_len (g := fun a b => f a b == w) N (ch ++ [atZ lf i]) ((lf.drop (i + 1)).filter fun b => f (atZ lf i) b == w) ((sh ++ lf.take i).filter fun b => f (atZ lf i) b == w)
              have bl2 : 2 ^ ((lf.drop (i + 1)).filter fun b => f (atZ lf i) b == w).length ≤ 2 ^ 10 := Nat.pow_le_pow_right (by decide) (by omega)
              array_get_dec
              refine st_extend (by rw [List.length_map, List.length_map]; show _ ≤ 16777216; omega) ?_
              array_get_dec
              refine hk _ ⟨?_, ?_⟩
              · rw [List.range_succ, List.flatMap_append, List.map_append, List.flatMap_cons, List.flatMap_nil, List.append_nil]
                rfl
              · rw [List.range_succ, List.flatMap_append, List.length_append, List.flatMap_cons, List.flatMap_nil, List.append_nil]
                omega
    refine st_ite (fun q => ?_) (fun q => ?_)
    · have q := of_decide_eq_true q
      array_get_dec
      refine st_eq_ll (ms := []) ?_
      array_get_dec
      refine st_ite (fun q2 => ?_) (fun q2 => ?_)
      · have q2 := of_decide_eq_true q2
        array_get_dec
        have e : ff (fun a b => f a b == w) (N + 1) ch lf sh = [ch] := by
          show (if lf = [] ∧ sh = [] then _ else _) = _
          rw [if_pos ⟨q, q2⟩]
        rw [e] at h
        exact h _
      · have q2 := of_decide_eq_false q2
        exact rest fun z => q2 z.2
    · have q := of_decide_eq_false q
      exact rest fun z => q z.1
theorem lexL_app {a b : List Int} : ∀ c : List Int, lexL (c ++ a) (c ++ b) = lexL a b
  | [] => rfl
  | x :: c => by
    rw [List.cons_append, List.cons_append, lexL_cons, if_pos rfl]
    exact lexL_app c
theorem ff_pre {g : Int → Int → Bool} : ∀ (n : Nat) (ch lf sh : List Int), ∀ S ∈ ff g n ch lf sh, ∃ T, S = ch ++ T
  | 0, _, _, _, S, h => by cases h
  | n + 1, ch, lf, sh, S, h => by
    unfold ff at h
    split at h
    · exact ⟨[], by rw [List.append_nil]; exact List.mem_singleton.mp h⟩
    · obtain ⟨i, hi, h⟩ := List.mem_flatMap.mp h
      obtain ⟨T, rfl⟩ := ff_pre n _ _ _ S h
      exact ⟨atZ lf i :: T, by simp⟩
theorem ff_up {g : Int → Int → Bool} : ∀ (n : Nat) (ch lf sh : List Int), lf.Pairwise (· < ·) → (ff g n ch lf sh).Pairwise (fun a b => lexL a b = true)
  | 0, _, _, _, _ => .nil
  | n + 1, ch, lf, sh, hu => by
    unfold ff
    split
    · exact List.pairwise_singleton _ _
    · refine List.pairwise_flatMap.mpr ⟨fun i hi => ff_up n _ _ _ ((hu.sublist (List.drop_sublist _ _)).filter _), (List.pairwise_lt_range (n := lf.length)).imp_of_mem fun {i j} hi hj hij => ?_⟩
      intro S hS T hT
      obtain ⟨S', rfl⟩ := ff_pre n _ _ _ S hS
      obtain ⟨T', rfl⟩ := ff_pre n _ _ _ T hT
      have hj := List.mem_range.mp hj
      have lt : atZ lf i < atZ lf j := by
        have := List.pairwise_iff_getElem.mp hu i j (by omega) hj hij
        simpa [atZ, List.getD_eq_getElem?_getD, List.getElem?_eq_getElem hj, List.getElem?_eq_getElem (show i < lf.length by omega)] using this
      rw [List.append_assoc, List.append_assoc, lexL_app]
      show lexL (atZ lf i :: S') (atZ lf j :: T') = true
      rw [lexL_cons, if_neg (by omega)]
      exact decide_eq_true lt
theorem ff_ne {g : Int → Int → Bool} : ∀ (n : Nat) (ch lf : List Int), lf.length < n → ff g n ch lf [] ≠ []
  | 0, _, _, h => by omega
  | n + 1, ch, lf, h => by
    unfold ff
    split
    · simp
    · rename_i hne
      have hl : 0 < lf.length := by
        cases lf with
        | nil => exact (hne ⟨rfl, rfl⟩).elim
        | cons _ _ => simp
      intro e
      have ih := ff_ne (g := g) n (ch ++ [atZ lf ((0 : Nat) : Int)]) ((lf.drop 1).filter (g (atZ lf ((0 : Nat) : Int)))) (by
        have := List.length_filter_le (g (atZ lf ((0 : Nat) : Int))) (lf.drop 1)
        rw [List.length_drop] at this
        omega)
      exact ih (List.flatMap_eq_nil_iff.mp e 0 (List.mem_range.mpr hl))
/-- the full sets of n places -/
def fulls (w : Bool) (n : Int) (ts : List (Int × Int)) : List (List Int) := ff (fun a b => Tb ts a b == w) 16 [] (rangeI n.toNat) []
theorem fulls_ne {w : Bool} {n : Int} {ts : List (Int × Int)} (g : Good n ts) : fulls w n ts ≠ [] := ff_ne _ _ _ (by rw [rangeI_len]; have := g.n10; omega)
theorem fulls_up {w : Bool} {n : Int} {ts : List (Int × Int)} : (fulls w n ts).Pairwise (fun a b => lexL a b = true) := ff_up _ _ _ _ (List.pairwise_map.mpr ((List.pairwise_lt_range (n := n.toNat)).imp fun {a b} h => by omega))
theorem fulls_len {w : Bool} {n : Int} {ts : List (Int × Int)} (g : Good n ts) : (fulls w n ts).length ≤ 1024 := by
  refine Nat.le_trans (ff_len _ _ _ _) ?_
  rw [rangeI_len]
  exact Nat.le_trans (Nat.pow_le_pow_right (by decide) (show n.toNat ≤ 10 by have := g.n10; omega)) (by decide)
theorem fulls_some {w : Bool} {n : Int} {ts : List (Int × Int)} : 2 ≤ (fulls w n ts).length → ∀ s ∈ fulls w n ts, s ≠ [] := by
  intro hl s hs
  unfold fulls ff at hl hs
  split at hl
  · simp at hl
  · split at hs
    · contradiction
    · obtain ⟨i, hi, h⟩ := List.mem_flatMap.mp hs
      obtain ⟨T, rfl⟩ := ff_pre _ _ _ _ s h
      simp
theorem ff_short {g : Int → Int → Bool} : ∀ (n : Nat) (ch lf sh : List Int), ∀ S ∈ ff g n ch lf sh, S.length ≤ ch.length + lf.length
  | 0, _, _, _, S, h => by cases h
  | n + 1, ch, lf, sh, S, h => by
    unfold ff at h
    split at h
    · rw [List.mem_singleton.mp h]; omega
    · obtain ⟨i, hi, h⟩ := List.mem_flatMap.mp h
      have hi := List.mem_range.mp hi
      have ih := ff_short n _ _ _ S h
      have := List.length_filter_le (g (atZ lf i)) (lf.drop (i + 1))
      rw [List.length_drop] at this
      rw [List.length_append, List.length_singleton] at ih
      omega
theorem fulls_short {w : Bool} {n : Int} {ts : List (Int × Int)} (g : Good n ts) : ∀ s ∈ fulls w n ts, s.length ≤ 10 := fun s hs => by
  have h1 := ff_short _ _ _ _ s hs
  rw [rangeI_len, List.length_nil] at h1
  have := g.n10
  omega
theorem full_apart_in_ok {n : Int} {ts : List (Int × Int)} (g : Good n ts) {X : XF} {Q : R → S → Prop} (h : ∀ fin, Q (.own (.l ((fulls false n ts).map tupI))) fin) : m_full_apart_in [.d (webD n ts)] X Q := by
  unfold m_full_apart_in b_full_apart_in
  have n0 := g.n0
  have n10 := g.n10
  refine st_sem rfl ?_
  array_get_dec
  refine rows_of_ok g fun fin => ?_
  array_get_dec
  refine all_places_ok g fun fin => ?_
  array_get_dec
  refine full_from_ok (n := n.toNat) (f := Tb ts) (w := false) 16 [] (rangeI n.toNat) [] (by rw [rangeI_len]; omega) (by rw [rangeI_len]; show _ + 0 ≤ 10; omega) (by rw [rangeI_len]; show 0 + _ ≤ 10; omega) (fun z hz => by
    rw [List.append_nil] at hz
    exact rangeI_mem.mp hz) _ _ fun fin => ?_
  array_get_dec
  refine st_sort_t fulls_some fun mss hp hs => ?_
  have e : mss = fulls false n ts := sort_one hp hs (fulls_up.imp fun h => lexL_asym h)
  rw [e]
  array_get_dec
  exact h _
theorem first_greatest_ok {F : List (List Int)} (hne : F ≠ []) (hl : F.length ≤ 1024) (hs : ∀ s ∈ F, s.length ≤ 10) {X : XF} {Q : R → S → Prop} (h : ∀ s fin, s ∈ F → (∀ t ∈ F, t.length ≤ s.length) → Q (.d (tupI s)) fin) : m_first_greatest [.d (.list (F.map tupI))] X Q := by
  unfold m_first_greatest b_first_greatest
  refine st_sem rfl ?_
  array_get_dec
  refine ⟨by rw [List.length_map]; show _ ≤ 16777216; omega, ?_⟩
  array_get_dec
  refine comp_list tupI (fun s => .int (s.length : Nat)) _ (fun s hs2 kT hkT => ?_) ?_
  · rw [show tupI s = PyData.tuple (s.map .int) from rfl]
    array_get_dec
    rw [List.length_map]
    exact hkT
  · array_get_dec
    rw [show F.map (fun s => PyData.int (s.length : Nat)) = (F.map fun s => ((s.length : Nat) : Int)).map PyData.int by rw [List.map_map]; rfl]
    show (match intsOf ((F.map fun s => ((s.length : Nat) : Int)).map PyData.int) with
      | some ns => 0 < ns.length ∧ ∀ m, m ∈ ns → (∀ y, y ∈ ns → y ≤ m) → _
      | none => False)
    rw [intsOf_map']
    refine ⟨by rw [List.length_map]; exact List.length_pos_iff.mpr hne, fun m hm hy => ?_⟩
    obtain ⟨b, hb, rfl⟩ := List.mem_map.mp hm
    array_get_dec
    refine ⟨by rw [List.length_map]; show _ ≤ 16777216; omega, ?_⟩
    array_get_dec
    refine comp_filter tupI tupI (fun s => decide (((s.length : Nat) : Int) = ((b.length : Nat) : Int))) _ (fun s hs2 kT kF hT hF => ?_) ?_
    · rw [show tupI s = PyData.tuple (s.map .int) from rfl]
      array_get_dec
      rw [List.length_map]
      refine st_ite (fun q => ?_) (fun q => ?_)
      · array_get_dec
        exact hT q
      · exact hF q
    · array_get_dec
      cases e : F.filter (fun s => decide (((s.length : Nat) : Int) = ((b.length : Nat) : Int))) with
      | nil =>
        have : b ∈ F.filter (fun s => decide (((s.length : Nat) : Int) = ((b.length : Nat) : Int))) := List.mem_filter.mpr ⟨hb, decide_eq_true rfl⟩
        rw [e] at this
        cases this
      | cons s r =>
        have hs3 : s ∈ F.filter (fun s => decide (((s.length : Nat) : Int) = ((b.length : Nat) : Int))) := by rw [e]; exact List.mem_cons_self
        obtain ⟨m1, m2⟩ := List.mem_filter.mp hs3
        have m2 := of_decide_eq_true m2
        rw [List.map_cons]
        refine st_ix_l (x := tupI s) (L2.atI_nat (j := 0) rfl) ?_
        array_get_dec
        refine h s _ m1 fun t ht => ?_
        have := hy _ (List.mem_map.mpr ⟨t, ht, rfl⟩)
        omega
def Clq (g : Int → Int → Bool) (T : List Int) : Prop := T.Pairwise fun a b => g a b = true
theorem ff_clq {g : Int → Int → Bool} : ∀ (n : Nat) (ch lf sh : List Int), ∀ S ∈ ff g n ch lf sh, ∃ T, S = ch ++ T ∧ T.Sublist lf ∧ Clq g T
  | 0, _, _, _, S, h => by cases h
  | n + 1, ch, lf, sh, S, h => by
    unfold ff at h
    split at h
    · exact ⟨[], by rw [List.append_nil]; exact List.mem_singleton.mp h, List.nil_sublist _, .nil⟩
    · obtain ⟨i, hi, h⟩ := List.mem_flatMap.mp h
      have hi := List.mem_range.mp hi
      obtain ⟨T, rfl, h1, h2⟩ := ff_clq n _ _ _ S h
      have e : lf.drop i = atZ lf i :: lf.drop (i + 1) := by
        rw [List.drop_eq_getElem_cons hi]
        simp [atZ, List.getD_eq_getElem?_getD, hi]
      refine ⟨atZ lf i :: T, by simp, ?_, List.pairwise_cons.mpr ⟨fun b hb => (List.mem_filter.mp (h1.subset hb)).2, h2⟩⟩
      have s1 : (atZ lf i :: T).Sublist (lf.drop i) := by
        rw [e]
        exact List.Sublist.cons_cons _ (h1.trans List.filter_sublist)
      exact s1.trans (List.drop_sublist _ _)
theorem ff_ext {g : Int → Int → Bool} (hs : ∀ a b, g a b = g b a) : ∀ (n : Nat) (ch lf sh T : List Int), lf.length < n → lf.Nodup → T.Sublist lf → Clq g T → (∀ z ∈ sh, ∃ u ∈ T, g u z = false) → ∃ S ∈ ff g n ch lf sh, ch.length + T.length ≤ S.length
  | 0, _, _, _, _, h, _, _, _, _ => by omega
  | n + 1, ch, lf, sh, T, hn, nd, hT, hc, hsh => by
    by_cases he : lf = [] ∧ sh = []
    · refine ⟨ch, ?_, ?_⟩
      · unfold ff
        rw [if_pos he]
        exact List.mem_singleton.mpr rfl
      · rw [he.1] at hT
        rw [List.sublist_nil.mp hT]
        exact Nat.le_refl _
    have unf : ff g (n + 1) ch lf sh = (List.range lf.length).flatMap fun (i : Nat) => ff g n (ch ++ [atZ lf i]) ((lf.drop (i + 1)).filter (g (atZ lf i))) ((sh ++ lf.take i).filter (g (atZ lf i))) := by
      show (if lf = [] ∧ sh = [] then _ else _) = _
      rw [if_neg he]
    -- the first that goes with all of T
    have go : ∀ (suf pre : List Int), lf = pre ++ suf → (∀ z ∈ pre, ∃ u ∈ T, g u z = false) → T.Sublist suf → ∃ S ∈ ff g (n + 1) ch lf sh, ch.length + T.length ≤ S.length := by
      intro suf
      induction suf with
      | nil =>
        intro pre e hp hsub
        have eT := List.sublist_nil.mp hsub
        subst eT
        have p0 : pre = [] := by
          cases pre with
          | nil => rfl
          | cons z r =>
            obtain ⟨u, hu, _⟩ := hp z List.mem_cons_self
            cases hu
        have s0 : sh = [] := by
          cases sh with
          | nil => rfl
          | cons z r =>
            obtain ⟨u, hu, _⟩ := hsh z List.mem_cons_self
            cases hu
        exact (he ⟨by rw [e, p0]; rfl, s0⟩).elim
      | cons p suf ih =>
        intro pre e hp hsub
        have hl : pre.length < lf.length := by rw [e]; simp
        have eat : atZ lf (pre.length : Nat) = p := by
          unfold atZ
          rw [e, Int.toNat_natCast, List.getD_eq_getElem?_getD, List.getElem?_append_right (Nat.le_refl _), Nat.sub_self]
          rfl
        have edr : lf.drop (pre.length + 1) = suf := by
          rw [e, List.drop_append, List.drop_eq_nil_of_le (by omega)]
          simp
        have etk : lf.take pre.length = pre := by
          rw [e, List.take_append, List.take_of_length_le (Nat.le_refl _)]
          simp
        have use : ∀ T', T'.Sublist suf → Clq g T' → (∀ u ∈ T', g p u = true) → (∀ z ∈ sh ++ pre, g p z = true → ∃ u ∈ T', g u z = false) → T.length ≤ T'.length + 1 → ∃ S ∈ ff g (n + 1) ch lf sh, ch.length + T.length ≤ S.length := by
          intro T' h1 h2 h3 h4 h5
          have fl := List.length_filter_le (g p) suf
          have ll : lf.length = pre.length + (suf.length + 1) := by rw [e, List.length_append]; rfl
          have nds : suf.Nodup := by
            rw [e] at nd
            exact (List.nodup_cons.mp (List.nodup_append.mp nd).2.1).2
          obtain ⟨S, hS, hSl⟩ := ff_ext hs n (ch ++ [p]) (suf.filter (g p)) ((sh ++ pre).filter (g p)) T' (by omega) (nds.filter _) (by
            have := h1.filter (g p)
            rw [List.filter_eq_self.mpr h3] at this
            exact this) h2 fun z hz => h4 z (List.mem_filter.mp hz).1 (List.mem_filter.mp hz).2
          refine ⟨S, ?_, ?_⟩
          · rw [unf]
            refine List.mem_flatMap.mpr ⟨pre.length, List.mem_range.mpr hl, ?_⟩
            rw [eat, edr, etk]
            exact hS
          · rw [List.length_append, List.length_singleton] at hSl
            omega
        have all : ∀ z ∈ sh ++ pre, ∃ u ∈ T, g u z = false := fun z hz => by
          rcases List.mem_append.mp hz with hz | hz
          · exact hsh z hz
          · exact hp z hz
        rcases List.sublist_cons_iff.mp hsub with hr | ⟨T', rfl, hr⟩
        · by_cases hall : ∀ u ∈ T, g u p = true
          · refine use T hr hc (fun u hu => by rw [hs]; exact hall u hu) (fun z hz _ => all z hz) (by omega)
          · obtain ⟨u, hnu⟩ := Classical.not_forall.mp hall
            obtain ⟨hu1, hg1⟩ := Classical.not_imp.mp hnu
            refine ih (pre ++ [p]) (by rw [e]; simp) (fun z hz => ?_) hr
            rcases List.mem_append.mp hz with hz | hz
            · exact hp z hz
            · obtain rfl := List.mem_singleton.mp hz
              exact ⟨u, hu1, by simpa using hg1⟩
        · obtain ⟨c1, c2⟩ := List.pairwise_cons.mp hc
          refine use T' hr c2 c1 (fun z hz hgz => ?_) (by rw [List.length_cons]; exact Nat.le_refl _)
          obtain ⟨u, hu, hg⟩ := all z hz
          rcases List.mem_cons.mp hu with rfl | hu
          · rw [hgz] at hg; cases hg
          · exact ⟨u, hu, hg⟩
    exact go lf [] rfl (fun z hz => nomatch hz) hT
/-- a crowd, or an apart set, of a web -/
def TClq (w : Bool) (ts : List (Int × Int)) (T : List Int) : Prop := T.Pairwise fun a b => Tb ts a b = w
theorem fulls_clq {w : Bool} {n : Int} {ts : List (Int × Int)} : ∀ S ∈ fulls w n ts, S.Sublist (rangeI n.toNat) ∧ TClq w ts S := fun S hS => by
  obtain ⟨T, rfl, h1, h2⟩ := ff_clq _ _ _ _ S hS
  exact ⟨h1, h2.imp fun h => by simpa using h⟩
theorem rangeI_nd {n : Nat} : (rangeI n).Nodup := (List.pairwise_map.mpr ((List.pairwise_lt_range (n := n)).imp fun {a b} h => by omega) : (rangeI n).Pairwise (· < ·)).imp fun {a b} h => by omega
theorem fulls_ext {w : Bool} {n : Int} {ts : List (Int × Int)} (g : Good n ts) {T : List Int} (hT : T.Sublist (rangeI n.toNat)) (hc : TClq w ts T) : ∃ S ∈ fulls w n ts, T.length ≤ S.length := by
  obtain ⟨S, hS, hl⟩ := ff_ext (g := fun a b => Tb ts a b == w) (fun a b => by rw [Tb_symm]) 16 [] (rangeI n.toNat) [] T (by rw [rangeI_len]; have := g.n10; omega) rangeI_nd hT (hc.imp fun h => by simpa using h) (fun z hz => nomatch hz)
  exact ⟨S, hS, by simpa using hl⟩
theorem e_tied_ok {n a b : Int} {ts : List (Int × Int)} {X : XF} {Q : R → S → Prop} (h : ∀ fin, Q (.d (.bool (Tb ts a b))) fin) : m__law_e_tied [.d (webD n ts), .d (.int a), .d (.int b)] X Q := by
  unfold m__law_e_tied b__law_e_tied
  refine st_sem rfl ?_
  array_get_dec
  exact h _
end Lk48
namespace Lk48
open PySem Hs
local macro_rules
  | `(tactic| sizeOf_list_dec) => `(tactic| first
    | with_reducible refine st_seq ?_ | with_reducible refine st_asg ?_ | with_reducible refine st_cons ?_ | with_reducible refine st_nil ?_ | with_reducible refine st_C ?_ | with_reducible refine st_op ?_
    | with_reducible refine st_var_d ?_ | with_reducible refine st_var_l ?_ | with_reducible refine st_var_ll ?_ | with_reducible refine st_var_dc ?_
    | with_reducible refine st_look_d ?_ | with_reducible refine st_look_top ?_ | with_reducible refine st_look_top_d ?_ | with_reducible refine st_look_own ?_ | with_reducible refine st_look_top_dc ?_ | with_reducible refine st_look_own_dc ?_ | with_reducible refine st_put_d ?_ | with_reducible refine st_put_own ?_ | with_reducible refine st_put_top_l ?_ | with_reducible refine st_put_top_ll ?_ | with_reducible refine st_put_top_dc ?_
    | ((with_reducible refine st_callF ?_ ?_); eq_refl) | with_reducible refine st_call ?_ | with_reducible refine st_putK_nil ?_ | with_reducible refine st_putK_t ?_ | with_reducible refine st_putK_f ?_ | with_reducible refine st_putK_td ?_ | with_reducible refine st_putK_to ?_ | with_reducible refine st_bind_nil ?_ | with_reducible refine st_bind_f ?_ | with_reducible refine st_bind_tt ?_ | with_reducible refine st_bind_td ?_ | with_reducible refine st_bind_to ?_
    | with_reducible refine st_frz_d ?_ | with_reducible refine st_frz_own ?_ | with_reducible refine st_frz_top ?_ | with_reducible refine st_frz_own_ll ?_ | with_reducible refine st_frz_own_dc ?_ | with_reducible refine st_frz_top_ll ?_ | with_reducible refine st_frz_top_dc ?_ | with_reducible refine st_frzAll_nil ?_ | with_reducible refine st_frzAll_cons ?_
    | with_reducible refine st_if ?_ | with_reducible refine st_B ?_ | with_reducible refine st_and ?_ | with_reducible refine st_or ?_ | with_reducible refine st_not ?_ | with_reducible refine st_yes ?_ | with_reducible refine st_isB ?_ | with_reducible refine st_t ?_ | with_reducible refine st_f ?_ | ((with_reducible refine st_iteT ?_ ?_); decide) | ((with_reducible refine st_iteF ?_ ?_); decide)
    | with_reducible refine st_nt ?_ | with_reducible refine st_nf ?_
    | with_reducible refine st_ret ?_ | with_reducible refine st_next ?_ | with_reducible refine st_retN ?_ | with_reducible refine st_drop ?_ | with_reducible refine st_break ?_ | with_reducible refine st_raise ?_
    | with_reducible refine st_out_d ?_ | with_reducible refine st_out_own ?_ | with_reducible refine st_out_top ?_
    | with_reducible refine st_tup ?_ | with_reducible refine st_lst ?_ | with_reducible refine st_un ?_ | with_reducible refine st_blt ?_ | with_reducible refine st_lookAll_nil ?_ | with_reducible refine st_lookAll_cons ?_
    | with_reducible refine st_unp ?_ | with_reducible refine st_par ?_ | with_reducible refine st_setIx ?_ | with_reducible refine st_onL ?_ | with_reducible refine st_for ?_ | with_reducible refine st_wipe_nil ?_ | with_reducible refine st_wipe_cons ?_ | with_reducible refine st_andV ?_ | with_reducible refine st_orV ?_ | with_reducible refine st_notV ?_ | with_reducible refine st_ifE ?_ | with_reducible refine st_chain ?_
    | with_reducible refine st_sl ?_ | with_reducible refine st_noPart ?_ | with_reducible refine st_part ?_ | with_reducible refine st_lc ?_ | with_reducible refine st_lm ?_
    | with_reducible refine st_seqI ?_ | with_reducible refine st_range1 ?_ | with_reducible refine st_range2 ?_ | with_reducible refine st_enum ?_ | with_reducible refine st_zip ?_
    | with_reducible refine st_nm ?_ | with_reducible refine st_tp ?_ | with_reducible refine st_tps_nil ?_ | with_reducible refine st_tps_cons ?_
    | ((with_reducible refine st_mod_i ?_ ?_); (first | decide | omega)) | ((with_reducible refine st_fdiv_i ?_ ?_); decide) 
    | with_reducible refine st_add_i ?_ | with_reducible refine st_sub_i ?_ | with_reducible refine st_neg_i ?_ | with_reducible refine st_eq_i ?_ | with_reducible refine st_ne_i ?_ | with_reducible refine st_eq_str ?_ | with_reducible refine st_ne_str ?_ | with_reducible refine st_eq_b ?_ | with_reducible refine st_ne_b ?_ | with_reducible refine st_lt_i ?_ | with_reducible refine st_le_i ?_ | with_reducible refine st_gt_i ?_ | with_reducible refine st_ge_i ?_
    | with_reducible refine st_is_n ?_ | with_reducible refine st_isNot_n ?_ | with_reducible refine st_is_b ?_ | with_reducible refine st_isNot_b ?_ | ((with_reducible refine st_ix_l (x := ?_) ?_ ?_); rotate_left; eq_refl) | ((with_reducible refine st_ix_t (x := ?_) ?_ ?_); rotate_left; eq_refl) | with_reducible refine st_len_l ?_ | with_reducible refine st_len_t ?_ | with_reducible refine st_len_lit ?_
    | with_reducible refine st_abs ?_ | with_reducible refine st_max2 ?_ | with_reducible refine st_min2 ?_ | with_reducible refine st_int_i ?_ | with_reducible refine st_int_b ?_ | with_reducible refine st_tuple_l ?_ | with_reducible refine st_tuple_t ?_ | with_reducible refine st_list_l ?_ | with_reducible refine st_list_t ?_ | ((with_reducible refine st_isT ?_ ?_); eq_refl) | ((with_reducible refine st_isTT ?_ ?_); eq_refl) | ((with_reducible refine st_isTF ?_ ?_); eq_refl) | ((with_reducible refine st_isNT ?_ ?_); eq_refl) | ((with_reducible refine st_isNF ?_ ?_); eq_refl)
    | with_reducible refine st_rg1 ?_ | with_reducible refine st_rg2 ?_ | with_reducible refine st_enumL ?_ | with_reducible refine st_zipS ?_ | with_reducible refine st_rev_l ?_ | with_reducible refine st_rev_t ?_
    | with_reducible refine st_ne_ll ?_ | with_reducible refine st_ne_lit ?_ | with_reducible refine st_in_pt ?_ | with_reducible refine st_in_pl ?_
    | with_reducible refine st_sl_l ?_ | with_reducible refine st_sl_t ?_
    | ((with_reducible refine st_iteLen ?_ ?_); eq_refl) | ((with_reducible refine st_iteNLen ?_ ?_); eq_refl) | with_reducible refine st_iteBB ?_ | ((with_reducible refine st_iteND ?_ ?_); omega) | ((with_reducible refine st_iteNF ?_ ?_); omega)
    | ((with_reducible refine st_iteT (decide_eq_true ?_) ?_); omega) | ((with_reducible refine st_iteF (decide_eq_false ?_) ?_); omega))
local macro_rules
  | `(tactic| sizeOf_list_dec) => `(tactic| with_reducible refine stepTo ?_)
local macro_rules
  | `(tactic| array_get_dec) => `(tactic| repeat sizeOf_list_dec)
local macro_rules
  | `(tactic| sizeOf_list_dec) => `(tactic| first | with_reducible refine st_ix2_l ?_ | with_reducible refine st_ix2_t ?_ | with_reducible refine st_ix2_s ?_ | with_reducible refine st_ix2_lit ?_ | with_reducible refine st_inK_l ?_ | with_reducible refine st_inK_t ?_ | with_reducible refine st_ninK_l ?_ | with_reducible refine st_ninK_t ?_ | with_reducible refine st_setD ?_ | with_reducible refine st_onDc ?_ | with_reducible refine st_dget2 ?_ | with_reducible refine st_emT ?_ | with_reducible refine st_emD ?_ | with_reducible refine st_disp1 ?_ | with_reducible refine st_disp1k ?_ | with_reducible refine st_range3 ?_ | with_reducible refine st_bor ?_ | with_reducible refine st_borT ?_ | with_reducible refine st_bindT_nil ?_ | with_reducible refine st_bindT_d ?_ | with_reducible refine st_bindT_o ?_ | with_reducible refine st_bindT_t ?_ | with_reducible refine st_toPs_nil ?_ | with_reducible refine st_toPs_d ?_ | with_reducible refine st_toPs_l ?_ | with_reducible refine st_toPs_dc ?_ | with_reducible refine st_tupO ?_ | with_reducible refine st_var_tp ?_ | with_reducible refine st_frz_own_tp ?_ | with_reducible refine st_frz_top_tp ?_ | with_reducible refine st_lmP ?_ | ((with_reducible refine st_onP ?_ ?_); eq_refl) | with_reducible refine st_flat_b ?_ | with_reducible refine st_flat_i ?_)
local macro_rules
  | `(tactic| sizeOf_list_dec) => `(tactic| with_reducible refine is_whole_ok fun _ => ?_)
local macro_rules
  | `(tactic| sizeOf_list_dec) => `(tactic| first | with_reducible refine st_in_il ?_ | with_reducible refine st_in_it ?_ | with_reducible refine st_notIn_il ?_ | with_reducible refine st_notIn_it ?_ | with_reducible refine st_ne_ll ?_)
local macro_rules
  | `(tactic| sizeOf_list_dec) => `(tactic| first | with_reducible refine st_lcK ?_ | with_reducible refine st_rowOf ?_)
theorem nodup_le : ∀ {l m : List Int}, l.Nodup → (∀ z ∈ l, z ∈ m) → l.length ≤ m.length
  | [], _, _, _ => Nat.zero_le _
  | a :: l, m, hn, hs => by
    obtain ⟨h1, h2⟩ := List.nodup_cons.mp hn
    have h3 := hs a List.mem_cons_self
    have h4 := nodup_le (m := m.erase a) h2 fun z hz => (List.mem_erase_of_ne (fun e => h1 (by rw [← e]; exact hz))).mpr (hs z (List.mem_cons_of_mem _ hz))
    rw [List.length_erase_of_mem h3] at h4
    have := List.length_pos_of_mem h3
    rw [List.length_cons]
    omega
theorem tb_iff {ts : List (Int × Int)} {a b : Int} (h : a < b) : Tb ts a b = true ↔ (a, b) ∈ ts := by
  unfold Tb
  rw [show min a b = a by omega, show max a b = b by omega, decide_eq_true_eq]
def low (a b : Int) : Int × Int := (a / (Int.gcd a b : Nat), b / (Int.gcd a b : Nat))
theorem gcd_pair {y x n : Nat} : ((x : Int) % (n : Int)) = ((x % n : Nat) : Int) := by simp
theorem divisor_ok {a b : Int} {X : XF} {Q : R → S → Prop} (h : ∀ fin, Q (.d (.int (Int.gcd a b))) fin) : m_divisor [.d (.int a), .d (.int b)] X Q := by
  unfold m_divisor b_divisor
  refine st_sem rfl ?_
  array_get_dec
  refine loop_while (fun n s => ∃ x : Nat, s = [.d (.int x), .d (.int n)] ∧ Nat.gcd x n = Int.gcd a b) ?_ b.natAbs ⟨a.natAbs, rfl, rfl⟩
  rintro n s k ⟨x, rfl, hg⟩ hk
  array_get_dec
  refine st_ite (fun c => ?_) (fun c => ?_)
  · have c := of_decide_eq_true c
    array_get_dec
    refine hk (x % n) _ (Nat.mod_lt _ (by omega)) ⟨n, ?_, ?_⟩
    · show [SV.d (.int _), SV.d (.int _)] = _
      rw [gcd_pair (y := 0)]
    · rw [← hg, Nat.gcd_comm n, Nat.gcd_comm x n, Nat.gcd_rec n x]
  · have c := of_decide_eq_false c
    obtain rfl : n = 0 := by omega
    array_get_dec
    rw [Nat.gcd_zero_right] at hg
    subst hg
    exact h _
/-- the program's lowest -/
theorem lowest_ok {a b : Int} {p : Nat} (hb : 0 < b) (hs : b.natAbs < 2 ^ 8999) {X : XF} {Q : R → S → Prop} (h : ∀ fin, Q (.d (.tuple [.int (a / Int.gcd a b), .int (b / Int.gcd a b)])) fin) : m_lowest [.d (.int a), .d (.int b)] X Q := by
  unfold m_lowest b_lowest
  refine st_sem rfl ?_
  array_get_dec
  refine divisor_ok fun fin => ?_
  have hg : 0 < Int.gcd a b := Int.gcd_pos_of_ne_zero_right _ (by omega)
  have hle : Int.gcd a b ≤ b.natAbs := Nat.le_of_dvd (by omega) (Int.gcd_dvd_natAbs_right a b)
  have ok : okD (Int.gcd a b : Nat) := okD_of 8999 (by omega) (by omega)
  array_get_dec
  refine st_fdiv_i ok ?_
  array_get_dec
  refine st_fdiv_i ok ?_
  array_get_dec
  exact h _
def Apt (ts : List (Int × Int)) (T : List Int) : Prop := T.Pairwise fun a b => Tb ts a b = false
def apsS (ts : List (Int × Int)) (F : List (List Int)) (p : Int) : List (List Int) := F ++ (F.filter fun S => !S.any fun one => Tb ts one p).map fun S => S ++ [p]
theorem aps_mem {ts : List (Int × Int)} : ∀ (l done : List Int) (F : List (List Int)), (∀ T, T ∈ F ↔ T.Sublist done ∧ Apt ts T) → (done ++ l).Nodup → ∀ T, T ∈ l.foldl (apsS ts) F ↔ T.Sublist (done ++ l) ∧ Apt ts T
  | [], done, F, h, _, T => by rw [List.append_nil]; exact h T
  | p :: l, done, F, h, hn, T => by
    rw [List.foldl_cons, show done ++ p :: l = (done ++ [p]) ++ l by simp]
    refine aps_mem l (done ++ [p]) (apsS ts F p) (fun U => ?_) (by simpa using hn) T
    unfold apsS
    rw [List.mem_append, h U, List.mem_map]
    have hp : p ∉ done := fun hp => (List.nodup_append.mp hn).2.2 p hp p (by simp) rfl
    constructor
    · rintro (⟨h1, h2⟩ | ⟨S, hS, rfl⟩)
      · exact ⟨h1.trans (List.sublist_append_left _ _), h2⟩
      · obtain ⟨hS, hq⟩ := List.mem_filter.mp hS
        obtain ⟨h1, h2⟩ := (h S).mp hS
        refine ⟨h1.append (List.Sublist.refl _), List.pairwise_append.mpr ⟨h2, List.pairwise_singleton _ _, fun a ha b hb => ?_⟩⟩
        rw [List.mem_singleton.mp hb]
        have hq : (S.any fun one => Tb ts one p) = false := by simpa using hq
        have := List.any_eq_false.mp hq a ha
        simpa using this
    · rintro ⟨h1, h2⟩
      obtain ⟨A, B, rfl, hA, hB⟩ := List.sublist_append_iff.mp h1
      have hB2 : B = [] ∨ B = [p] := by
        cases hB with
        | cons _ h => exact .inl (List.sublist_nil.mp h)
        | cons_cons _ h => exact .inr (by rw [List.sublist_nil.mp h])
      rcases hB2 with rfl | rfl
      · rw [List.append_nil] at h2 ⊢
        exact .inl ⟨hA, h2⟩
      · obtain ⟨q1, _, q3⟩ := List.pairwise_append.mp h2
        refine .inr ⟨A, List.mem_filter.mpr ⟨(h A).mpr ⟨hA, q1⟩, ?_⟩, rfl⟩
        have : (A.any fun one => Tb ts one p) = false := List.any_eq_false.mpr fun a ha => by rw [q3 a ha p (by simp)]; simp
        rw [this]; rfl
def aps (ts : List (Int × Int)) (L : List Int) : List (List Int) := L.foldl (apsS ts) [[]]
theorem aps_iff {ts : List (Int × Int)} {L : List Int} (hn : L.Nodup) {T : List Int} : T ∈ aps ts L ↔ T.Sublist L ∧ Apt ts T := by
  have := aps_mem (ts := ts) L [] [[]] (fun T => by
    rw [List.mem_singleton]
    constructor
    · rintro rfl; exact ⟨List.Sublist.refl _, .nil⟩
    · rintro ⟨h, _⟩; exact List.sublist_nil.mp h) (by simpa using hn) T
  rw [List.nil_append] at this
  exact this
theorem aps_len {ts : List (Int × Int)} : ∀ (l : List Int) (F : List (List Int)), (l.foldl (apsS ts) F).length ≤ F.length * 2 ^ l.length
  | [], F => by simp
  | p :: l, F => by
    rw [List.foldl_cons]
    refine Nat.le_trans (aps_len l _) ?_
    have h1 : (apsS ts F p).length ≤ F.length * 2 := by
      unfold apsS
      rw [List.length_append, List.length_map]
      have := List.length_filter_le (fun S => !S.any fun one => Tb ts one p) F
      omega
    rw [List.length_cons, Nat.pow_succ, Nat.mul_comm (2 ^ l.length) 2, ← Nat.mul_assoc]
    exact Nat.mul_le_mul_right _ h1
theorem apart_sets_ok {n : Int} {ts : List (Int × Int)} {L : List Int} (hn : L.Nodup) (hl : L.length ≤ 10) {X : XF} {Q : R → S → Prop} (h : ∀ fin, Q (.own (.l ((aps ts L).map tupI))) fin) : m__law_e_apart_sets [.d (webD n ts), .d (.list (L.map .int))] X Q := by
  unfold m__law_e_apart_sets b__law_e_apart_sets
  refine st_sem rfl ?_
  array_get_dec
  refine loop_list PyData.int (fun l s => ∃ done : List Int, L = done ++ l ∧ ∃ w : SV, (w = .l ((aps ts done).map tupI)) ∧ s = [.d (webD n ts), .d (.list (L.map .int)), w, .no, .no, .no, .no]) ?_ ?_ _ _ ⟨[], rfl, _, rfl, rfl⟩
  · rintro s ⟨done, e, w, rfl, rfl⟩
    rw [List.append_nil] at e
    subst e
    array_get_dec
    exact h _
  · rintro p l s k ⟨done, e, w, rfl, rfl⟩ hk
    have hdl : done.length < 10 := by have := congrArg List.length e; rw [List.length_append, List.length_cons] at this; omega
    have dn : done.Nodup := (List.nodup_append.mp (by rw [← e]; exact hn)).1
    have al : (aps ts done).length ≤ 1024 := by
      have := aps_len (ts := ts) done [[]]
      have h2 : 2 ^ done.length ≤ 2 ^ 10 := Nat.pow_le_pow_right (by decide) (by omega)
      unfold aps
      simp at this
      omega
    have sh : ∀ S ∈ aps ts done, S.length ≤ 10 := fun S hS => by
      have := ((aps_iff dn).mp hS).1.length_le
      omega
    have es : aps ts (done ++ [p]) = apsS ts (aps ts done) p := by unfold aps; rw [List.foldl_append]; rfl
    generalize hA : aps ts done = A at *
    array_get_dec
    refine ⟨by rw [List.length_map]; show _ ≤ 16777216; omega, ?_⟩
    array_get_dec
    refine comp_filter tupI (fun S => tupI (S ++ [p])) (fun S => !S.any fun one => Tb ts one p) _ (fun S hS kT kF hT hF => ?_) ?_
    · have := sh S hS
      rw [show tupI S = PyData.tuple (S.map .int) from rfl]
      array_get_dec
      refine ⟨by rw [List.length_map]; show _ ≤ 16777216; omega, ?_⟩
      array_get_dec
      refine comp_list PyData.int (fun z => .bool (Tb ts z p)) _ (fun z hz kT2 hkT2 => ?_) ?_
      · array_get_dec
        refine e_tied_ok fun fin => ?_
        array_get_dec
        exact hkT2
      · array_get_dec
        refine st_any_map ?_
        array_get_dec
        refine st_ite (fun q => ?_) (fun q => ?_)
        · array_get_dec
          refine st_add_t ?_ ?_
          · rw [List.length_map]; show S.length + 1 ≤ 16777216; omega
          rw [show S.map PyData.int ++ [PyData.int p] = (S ++ [p]).map PyData.int by simp]
          array_get_dec
          exact hT q
        · exact hF q
    · array_get_dec
      have fl := List.length_filter_le (fun S => !S.any fun one => Tb ts one p) A
      refine st_add_l ?_ ?_
      · rw [List.length_map, List.length_map]; show _ ≤ 16777216; omega
      array_get_dec
      refine hk _ ⟨done ++ [p], by rw [e]; simp, _, rfl, ?_⟩
      rw [es]
      unfold apsS
      rw [List.map_append, List.map_map]
      rfl
theorem perm_incl : ∀ {l m : List Int}, l.Nodup → (∀ z ∈ l, z ∈ m) → m.length ≤ l.length → l.Perm m
  | [], m, _, _, hl => by
    have : m = [] := List.length_eq_zero_iff.mp (by simpa using hl)
    rw [this]
  | a :: l, m, hn, h, hl => by
    have hm := h a List.mem_cons_self
    have p := List.perm_cons_erase hm
    rw [List.nodup_cons] at hn
    refine (List.Perm.cons a (perm_incl hn.2 (fun z hz => ?_) ?_)).trans p.symm
    · have : z ≠ a := fun e => hn.1 (e ▸ hz)
      exact (List.mem_erase_of_ne this).mpr (h z (List.mem_cons_of_mem _ hz))
    · rw [List.length_erase_of_mem hm]
      rw [List.length_cons] at hl
      omega
theorem good_no {n : Int} {ts : List (Int × Int)} (g : Good n ts) : ∀ i : Int, Tb ts i i = false := fun i => by
  unfold Tb
  refine decide_eq_false fun hm => ?_
  have := (g.ties _ hm).2.1
  simp only at this
  omega
theorem st_mt {g : MR} {a : FE} {r : FA} {X : XF} {s : S} {Q : R → S → Prop} (h : a X s fun ro s1 => look s1 ro fun d0 => match d0 with
  | .list _ => r X s1 fun rs s2 => frzAll (ro :: rs) s2 fun ds s3 => match ds with
    | d :: es => g d es fun x => Q (.d x) s3
    | [] => False
  | _ => False) : fMt g a r X s Q := h
local macro_rules
  | `(tactic| sizeOf_list_dec) => `(tactic| first | with_reducible refine st_mt ?_)
theorem st_countBs {α : Type} {l : List α} {f : α → Bool} {k : D → Prop} (h : k (.int ((l.map f).count true : Nat))) : gCountB (.list (l.map fun j => PyData.bool (f j))) [.bool true] k := by
  show (match boolsOf (l.map fun j => PyData.bool (f j)) with | some bs => k (.int (bs.count true : Nat)) | none => False)
  rw [show (l.map fun j => PyData.bool (f j)) = (l.map f).map PyData.bool by rw [List.map_map]; rfl, boolsOf_map']
  exact h
theorem lay_tups : ∀ F : List (List Int), PyData.canLayAll0 (F.map tupI) = true ∧ PyData.depthAll (F.map tupI) ≤ 2
  | [] => ⟨rfl, Nat.zero_le _⟩
  | S :: F => by
    obtain ⟨h1, h2⟩ := lay_tups F
    obtain ⟨h3, h4⟩ := lay_ints S
    have e : (tupI S).canLay0 = PyData.canLayAll0 (S.map PyData.int) := by unfold tupI; simp [PyData.canLay0]
    have e2 : (tupI S).depth ≤ 2 := by unfold tupI; simp [PyData.depth]; omega
    refine ⟨by show ((tupI S).canLay0 && PyData.canLayAll0 (F.map tupI)) = true; rw [h1, e, h3]; rfl, ?_⟩
    show max ((tupI S).depth) (PyData.depthAll (F.map tupI)) ≤ 2
    omega
theorem shaped_tups {F : List (List Int)} : SeqAt.shaped (.list (F.map tupI)) = true := by
  obtain ⟨h1, h2⟩ := lay_tups F
  unfold SeqAt.shaped
  rw [show (PyData.list (F.map tupI)).canLay0 = PyData.canLayAll0 (F.map tupI) from by simp [PyData.canLay0], h1]
  simp [PyData.depth]
  omega
theorem eqv_tupI {S T : List Int} : PyData.eqv (tupI S) (tupI T) = decide (S = T) := eqv_ints S T
theorem eqv_tups : ∀ F G : List (List Int), PyData.eqvAll (F.map tupI) (G.map tupI) = decide (F = G)
  | [], [] => rfl
  | [], _ :: _ => rfl
  | _ :: _, [] => rfl
  | n :: ns, m :: ms => by
    show (PyData.eqv (tupI n) (tupI m) && PyData.eqvAll (ns.map tupI) (ms.map tupI)) = _
    rw [eqv_tups ns ms, eqv_tupI]
    by_cases h1 : n = m <;> by_cases h2 : ns = ms <;> simp [h1, h2]
theorem st_eq_tups {F G : List (List Int)} {k : R → Prop} (h : k (.d (.bool (decide (F = G))))) : cEq (.list (F.map tupI)) (.list (G.map tupI)) k := by
  refine st_eq (x := .list (F.map tupI)) (y := .list (G.map tupI)) shaped_tups shaped_tups ?_
  show k (.d (.bool (PyData.eqvAll (F.map tupI) (G.map tupI))))
  rw [eqv_tups]
  exact h
theorem order_ok {ns : List Int} {F : Nat} {xs : List D} {n : Int} (hc : Cup ns (F + 10) xs) (h0 : 0 ≤ n) (h10 : n ≤ 10) {X : XF} {Q : R → S → Prop}
    (h : ∀ ls xs', Cup ns F xs' → Bel n ls → (ls.length : Int) = n → Q (.d (tupI ls)) [.l xs', .d (.int n)]) : m__law_e_order [.l xs, .d (.int n)] X Q := by
  unfold m__law_e_order b__law_e_order
  refine st_sem rfl ?_
  array_get_dec
  refine ⟨⟨by omega, by omega, by omega, by omega, by omega⟩, ?_⟩
  rw [rangeD_map]
  array_get_dec
  refine ⟨by unfold lim62; omega, ?_⟩
  refine ⟨by rw [rangeD_len]; show _ ≤ 16777216; omega, ?_⟩
  array_get_dec
  have e : ((n.toNat : Nat) : Int) = n := by omega
  have b0 := bel_range (n := n.toNat)
  rw [e] at b0
  refine comp_inv (fun rest acc s => ∃ (ls os : List Int) (xs : List D), acc = os.map .int ∧ s = [.l xs, .d (.int n), .l (ls.map .int), .no] ∧ ls.length = rest.length ∧ os.length + ls.length = n.toNat ∧ Bel n (os ++ ls) ∧ Cup ns (F + ls.length) xs) ?_ ?_ _ _ _ ⟨rangeI n.toNat, [], xs, rfl, rfl, by rw [rangeD_len, rangeI_len], by rw [rangeI_len]; simp, b0, hc.less (by rw [rangeI_len]; omega)⟩
  · rintro acc s ⟨ls, os, xs, rfl, rfl, hl, hn, hb, hc⟩
    have : ls = [] := List.length_eq_zero_iff.mp (by simpa using hl)
    subst this
    rw [List.append_nil] at hb
    array_get_dec
    exact h os xs (hc.less (by omega)) hb (by simp at hn; omega)
  · rintro d rest acc s kT kF ⟨ls, os, xs, rfl, rfl, hl, hn, hb, hc⟩ hkT hkF
    rw [List.length_cons] at hl
    have few := hb.few
    rw [List.length_append] at few
    array_get_dec
    rw [List.length_map]
    refine dip_ok (F := F + rest.length) (hc.less (by omega)) (by omega) (by omega) fun r xs' hc' hr0 hr1 => ?_
    obtain ⟨a, rfl⟩ := Int.eq_ofNat_of_zero_le hr0
    have ha : a < ls.length := by omega
    have lel : (ls.eraseIdx a).length = ls.length - 1 := List.length_eraseIdx_of_lt ha
    have pp := pop_perm ha
    array_get_dec
    refine st_pop (by omega) hr1 (by omega) ?_
    array_get_dec
    refine hkT _ _ ⟨ls.eraseIdx a, os ++ [atZ ls a], xs', by rw [List.map_append]; rfl, rfl, by omega, by rw [List.length_append, List.length_singleton]; omega, ?_, hc'.less (by omega)⟩
    refine hb.perm ?_
    rw [List.append_assoc]
    exact List.Perm.append_left _ (by simpa using pp)
theorem moved_ok {n : Int} {ps : List (Int × Int)} {ls : List Int} (h0 : 0 ≤ n) (h10 : n ≤ 10) (hb : Bel n ls) (hl : (ls.length : Int) = n) (hp : Prs n ps) (hpl : ps.length ≤ 1000) {X : XF} {Q : R → S → Prop}
    (h : ∀ qs fin, Good n qs → Q (.d (webD n qs)) fin) : m__law_e_moved [.d (webD n ps), .d (tupI ls)] X Q := by
  unfold m__law_e_moved b__law_e_moved
  refine st_sem rfl ?_
  rw [show tupI ls = PyData.tuple (ls.map .int) from rfl]
  array_get_dec
  refine loop_list pairD (fun l s => ∃ done : List (Int × Int), s = [.d (webD n ps), .d (.tuple (ls.map .int)), .l ((done.map (calls ls)).map pairD), .no, .no] ∧ ps = done ++ l) ?_ ?_ ps _ ⟨[], rfl, rfl⟩
  · rintro s ⟨done, rfl, e⟩
    rw [List.append_nil] at e
    subst e
    obtain ⟨g1, g2⟩ := calls_good hb hl hp
    array_get_dec
    refine st_sort_p rfl fun qs hqp hqs => ?_
    array_get_dec
    refine h qs _ ⟨h0, h10, fun p hm => g1 p (hqp.mem_iff.mp hm), strict_of hqp g2 hqs, ?_⟩
    rw [hqp.length_eq, List.length_map]
    omega
  · rintro p l s k ⟨done, rfl, e⟩ hk
    have hpm : p ∈ ps := by rw [e]; simp
    obtain ⟨p1, p2, p3⟩ := hp.lt p hpm
    array_get_dec
    refine st_ix_t (atZ_ok p1 (by omega)) ?_
    array_get_dec
    refine st_ix_t (atZ_ok (by omega) (by omega)) ?_
    array_get_dec
    refine st_ix_t (atZ_ok p1 (by omega)) ?_
    array_get_dec
    refine st_ix_t (atZ_ok (by omega) (by omega)) ?_
    array_get_dec
    refine st_append ?_ ?_
    · rw [List.length_map, List.length_map]
      have := congrArg List.length e
      rw [List.length_append, List.length_cons] at this
      show _ < 16777216
      omega
    array_get_dec
    refine hk _ ⟨done ++ [p], ?_, by rw [e]; simp⟩
    rw [List.map_append, List.map_append]
    rfl
theorem round_ok {ns : List Int} {F : Nat} {xs : List D} {n : Int} (hc : Cup ns (F + 20) xs) (h0 : 0 ≤ n) (h10 : n ≤ 10) {X : XF} {Q : R → S → Prop}
    (h : ∀ ts xs', Cup ns F xs' → Good n ts → Q (.d (webD n ts)) [.l xs', .d (.int n)]) : m__law_e_round_web [.l xs, .d (.int n)] X Q := by
  unfold m__law_e_round_web b__law_e_round_web
  refine st_sem rfl ?_
  refine st_join (fun s => ∃ (fs : List Int) (xs : List D), s = [.l xs, .d (.int n), .l (fs.map .int), .no, .no, .no, .no] ∧ fs.length ≤ 10 ∧ Cup ns (F + 10) xs) ?_ (fun k hk => ?_)
  · rintro s ⟨fs, xs, rfl, hfl, hc⟩
    array_get_dec
    refine ⟨by unfold lim62; omega, ?_⟩
    array_get_dec
    refine loop_range1 (hi := n) (fun i s => ∃ (ts : List (Int × Int)), s = [.l xs, .d (.int n), .l (fs.map .int), .no, .l (ts.map pairD), .no, .no] ∧ (∀ p ∈ ts, 0 ≤ p.1 ∧ p.1 < p.2 ∧ p.2 < n ∧ p.1 < i) ∧ ts.Nodup ∧ (ts.length : Int) ≤ 10 * i) ?_ ?_ ⟨[], rfl, fun p hp => (nomatch hp), .nil, by simp⟩
    · rintro s ⟨ts, rfl, hp, hn, hl⟩
      array_get_dec
      refine order_ok (F := F) hc h0 h10 fun ls xs' hc' hb hll => ?_
      array_get_dec
      refine moved_ok h0 h10 hb hll ⟨fun p hm => ⟨(hp p hm).1, (hp p hm).2.1, (hp p hm).2.2.1⟩, hn⟩ (by omega) fun qs fin g => ?_
      array_get_dec
      exact h qs xs' hc' g
    · rintro i s k hi hin ⟨ts, rfl, hp, hn, hl⟩ hk
      array_get_dec
      refine ⟨by unfold lim62; omega, by unfold lim62; omega, ?_⟩
      array_get_dec
      refine loop_range (lo := i + 1) (hi := n) (fun j s => ∃ (ts : List (Int × Int)), s = [.l xs, .d (.int n), .l (fs.map .int), .no, .l (ts.map pairD), .d (.int i), .no] ∧ (∀ p ∈ ts, 0 ≤ p.1 ∧ p.1 < p.2 ∧ p.2 < n ∧ (p.1 < i ∨ p.1 = i ∧ p.2 < j)) ∧ ts.Nodup ∧ (ts.length : Int) ≤ 10 * i + j) ?_ ?_ ?_
      · rintro s ⟨ts, rfl, hp, hn, hl⟩
        refine hk _ ⟨ts, rfl, fun p hm => ?_, hn, by omega⟩
        obtain ⟨p1, p2, p3, p4⟩ := hp p hm
        exact ⟨p1, p2, p3, by omega⟩
      · rintro j s k2 hj hjn ⟨ts, rfl, hp, hn, hl⟩ hk2
        array_get_dec
        refine st_ite (fun q => ?_) (fun q => ?_)
        · array_get_dec
          refine st_append (by rw [List.length_map]; show _ < 16777216; omega) ?_
          array_get_dec
          refine hk2 _ ⟨ts ++ [(i, j)], by rw [List.map_append]; rfl, fun p hm => ?_, ?_, by rw [List.length_append]; simp; omega⟩
          · rcases List.mem_append.mp hm with hm | hm
            · obtain ⟨p1, p2, p3, p4⟩ := hp p hm
              exact ⟨p1, p2, p3, by omega⟩
            · obtain rfl : p = (i, j) := by simpa using hm
              exact ⟨by omega, by show i < j; omega, hjn, .inr ⟨rfl, by show j < j + 1; omega⟩⟩
          · refine List.nodup_append.mpr ⟨hn, by simp, fun p hm q hq e => ?_⟩
            obtain rfl : q = (i, j) := by simpa using hq
            subst e
            obtain ⟨p1, p2, p3, p4⟩ := hp _ hm
            simp only at p4
            omega
        · array_get_dec
          refine hk2 _ ⟨ts, rfl, fun p hm => ?_, hn, by omega⟩
          obtain ⟨p1, p2, p3, p4⟩ := hp p hm
          exact ⟨p1, p2, p3, by omega⟩
      · refine ⟨ts, rfl, fun p hm => ?_, hn, by omega⟩
        obtain ⟨p1, p2, p3, p4⟩ := hp p hm
        exact ⟨p1, p2, p3, .inl p4⟩
  · array_get_dec
    refine ⟨by unfold lim62; omega, by unfold lim62; omega, ?_⟩
    refine ⟨by rw [rangeD_len]; show _ ≤ 16777216; omega, ?_⟩
    array_get_dec
    refine comp_inv (fun rest acc s => ∃ (fs : List Int) (xs : List D), acc = fs.map .int ∧ s = [.l xs, .d (.int n), .no, .no, .no, .no, .no] ∧ fs.length + rest.length ≤ 10 ∧ (∀ d ∈ rest, ∃ z : Int, d = .int z) ∧ Cup ns (F + 10 + rest.length) xs) ?_ ?_ _ _ _ ⟨[], xs, rfl, rfl, ?_, ?_, hc.less ?_⟩
    · rintro acc s ⟨fs, xs, rfl, rfl, hl, hd, hc⟩
      array_get_dec
      exact hk _ ⟨fs, xs, rfl, by simp at hl; omega, hc.less (by omega)⟩
    · rintro d rest acc s kT kF ⟨fs, xs, rfl, rfl, hl, hd, hc⟩ hkT hkF
      rw [List.length_cons] at hl
      obtain ⟨z, rfl⟩ := hd d List.mem_cons_self
      array_get_dec
      refine dip_ok (F := F + 10 + rest.length) (hc.less (by simp; omega)) (by decide) (by decide) fun r xs' hc' hr0 hr1 => ?_
      array_get_dec
      refine st_ite (fun q => ?_) (fun q => ?_)
      · array_get_dec
        exact hkT _ _ ⟨fs ++ [z], xs', by rw [List.map_append]; rfl, rfl, by rw [List.length_append, List.length_singleton]; omega, fun d hm => hd d (List.mem_cons_of_mem _ hm), hc'⟩
      · array_get_dec
        exact hkF _ ⟨fs, xs', rfl, rfl, by omega, fun d hm => hd d (List.mem_cons_of_mem _ hm), hc'⟩
    · rw [rangeD_len]; simp; omega
    · intro d hm
      unfold rangeD at hm
      obtain ⟨k, _, rfl⟩ := List.mem_map.mp hm
      exact ⟨_, rfl⟩
    · rw [rangeD_len]; omega
def tnL (ts : List (Int × Int)) (sm : List Int) (there : Int) : Bool := !decide (there ∈ sm) && (rangeI sm.length).all fun k => Tb ts k sm.length == Tb ts (atZ sm k) there
def degT (n : Nat) (ts : List (Int × Int)) (i : Int) : Nat := ((rangeI n).map fun j => Tb ts i j).count true
def tnP (n : Nat) (ts : List (Int × Int)) (sm : List Int) (there : Int) : Bool := tnL ts sm there && decide (degT n ts there = degT n ts sm.length)
def gos (p : List Int → Int → Bool) (n most : Nat) : Nat → List Int → List (List Int) → List (List Int)
  | 0, sm, found => found ++ [sm]
  | f + 1, sm, found => (rangeI n).foldl (fun fd there => if decide (fd.length ≤ most) && p sm there then gos p n most f (sm ++ [there]) fd else fd) found
theorem gos_succ {p : List Int → Int → Bool} {n most f : Nat} {sm : List Int} {found : List (List Int)} : gos p n most (f + 1) sm found = (rangeI n).foldl (fun fd there => if decide (fd.length ≤ most) && p sm there then gos p n most f (sm ++ [there]) fd else fd) found := rfl
theorem gos_len {p : List Int → Int → Bool} {n most : Nat} : ∀ (f : Nat) (sm : List Int) (found : List (List Int)), found.length ≤ most → (gos p n most f sm found).length ≤ most + 1
  | 0, sm, found, h => by unfold gos; simp; omega
  | f + 1, sm, found, h => by
    unfold gos
    have go : ∀ (l : List Int) (fd : List (List Int)), fd.length ≤ most + 1 → (l.foldl (fun fd there => if decide (fd.length ≤ most) && p sm there then gos p n most f (sm ++ [there]) fd else fd) fd).length ≤ most + 1 := by
      intro l
      induction l with
      | nil => intro fd h; exact h
      | cons a l ih =>
        intro fd h
        rw [List.foldl_cons]
        refine ih _ ?_
        split
        · rename_i q
          exact gos_len f _ _ (by simp at q; exact q.1)
        · exact h
    exact go _ _ (by omega)
/-- begun well -/
def Val (p : List Int → Int → Bool) (n : Nat) (x : List Int) : Prop := ∀ k : Nat, k < x.length → p (x.take k) (atZ x k) = true ∧ atZ x k ∈ rangeI n
theorem atZ_app {x y : List Int} {k : Nat} (h : k < x.length) : atZ (x ++ y) k = atZ x k := by
  unfold atZ
  simp only [Int.toNat_natCast, List.getD_eq_getElem?_getD]
  rw [List.getElem?_append_left h]
theorem atZ_end {x : List Int} {t : Int} : atZ (x ++ [t]) x.length = t := by
  unfold atZ
  simp
theorem Val.snoc {p : List Int → Int → Bool} {n : Nat} {x : List Int} {t : Int} (h : Val p n x) (hp : p x t = true) (ht : t ∈ rangeI n) : Val p n (x ++ [t]) := by
  intro k hk
  rw [List.length_append, List.length_singleton] at hk
  by_cases hlt : k < x.length
  · rw [List.take_append_of_le_length (by omega), atZ_app hlt]
    exact h k hlt
  · have e : k = x.length := by omega
    subst e
    rw [List.take_append_of_le_length (by omega), List.take_length, atZ_end]
    exact ⟨hp, ht⟩
theorem gos_add {p q : List Int → Int → Bool} {n most : Nat} (hpq : ∀ x t, p x t = true → q x t = true) : ∀ (f : Nat) (sm : List Int) (found : List (List Int)), Val q n sm →
    ∃ L, gos p n most f sm found = found ++ L ∧ ∀ x ∈ L, x.length = sm.length + f ∧ Val q n x ∧ sm <+: x
  | 0, sm, found, h => ⟨[sm], rfl, fun x hx => by rw [List.mem_singleton] at hx; subst hx; exact ⟨rfl, h, List.prefix_rfl⟩⟩
  | f + 1, sm, found, h => by
    unfold gos
    have go : ∀ (l : List Int) (fd : List (List Int)), (∀ t ∈ l, t ∈ rangeI n) → ∃ L, l.foldl (fun fd there => if decide (fd.length ≤ most) && p sm there then gos p n most f (sm ++ [there]) fd else fd) fd = fd ++ L ∧ ∀ x ∈ L, x.length = sm.length + (f + 1) ∧ Val q n x ∧ sm <+: x := by
      intro l
      induction l with
      | nil => intro fd _; exact ⟨[], by simp, fun x hx => nomatch hx⟩
      | cons a l ih =>
        intro fd hl
        rw [List.foldl_cons]
        split
        · rename_i hq
          rw [Bool.and_eq_true] at hq
          obtain ⟨L1, e1, g1⟩ := gos_add hpq f (sm ++ [a]) fd (h.snoc (hpq _ _ hq.2) (hl a List.mem_cons_self))
          obtain ⟨L2, e2, g2⟩ := ih (fd ++ L1) fun t ht => hl t (List.mem_cons_of_mem _ ht)
          refine ⟨L1 ++ L2, by rw [e1, e2, List.append_assoc], fun x hx => ?_⟩
          rcases List.mem_append.mp hx with hx | hx
          · obtain ⟨h1, h2, h3⟩ := g1 x hx
            refine ⟨by rw [h1, List.length_append, List.length_singleton]; omega, h2, (List.prefix_append sm [a]).trans h3⟩
          · exact g2 x hx
        · exact ih fd fun t ht => hl t (List.mem_cons_of_mem _ ht)
    exact go _ _ fun t ht => ht
theorem gos_same {p q : List Int → Int → Bool} {n most : Nat} (hpq : ∀ x t, p x t = true → q x t = true) (dead : ∀ x y t, Val q n y → y.length = n → (x ++ [t]) <+: y → q x t = true → p x t = true) :
    ∀ (f : Nat) (sm : List Int) (found : List (List Int)), sm.length + f = n → Val q n sm → gos q n most f sm found = gos p n most f sm found
  | 0, sm, found, _, h => rfl
  | f + 1, sm, found, hl, h => by
    unfold gos
    have go : ∀ (l : List Int) (fd : List (List Int)), (∀ t ∈ l, t ∈ rangeI n) → l.foldl (fun fd there => if decide (fd.length ≤ most) && q sm there then gos q n most f (sm ++ [there]) fd else fd) fd = l.foldl (fun fd there => if decide (fd.length ≤ most) && p sm there then gos p n most f (sm ++ [there]) fd else fd) fd := by
      intro l
      induction l with
      | nil => intro fd _; rfl
      | cons a l ih =>
        intro fd hm
        rw [List.foldl_cons, List.foldl_cons]
        have e : (if decide (fd.length ≤ most) && q sm a then gos q n most f (sm ++ [a]) fd else fd) = if decide (fd.length ≤ most) && p sm a then gos p n most f (sm ++ [a]) fd else fd := by
          by_cases hd : fd.length ≤ most
          · rw [decide_eq_true hd, Bool.true_and, Bool.true_and]
            cases hq : q sm a with
            | false =>
              cases hp : p sm a with
              | false => rfl
              | true => rw [hpq _ _ hp] at hq; cases hq
            | true =>
              have hv := h.snoc hq (hm a List.mem_cons_self)
              have hs := gos_same (most := most) hpq dead f (sm ++ [a]) fd (by rw [List.length_append, List.length_singleton]; omega) hv
              cases hp : p sm a with
              | true => simpa using hs
              | false =>
                obtain ⟨L, e1, g1⟩ := gos_add (p := q) (q := q) (most := most) (fun _ _ h => h) f (sm ++ [a]) fd hv
                cases L with
                | nil => simpa using e1
                | cons y L =>
                  obtain ⟨h1, h2, h3⟩ := g1 y List.mem_cons_self
                  rw [List.length_append, List.length_singleton] at h1
                  rw [dead sm y a h2 (by omega) h3 hq] at hp
                  cases hp
          · rw [decide_eq_false hd]; rfl
        rw [e]
        exact ih _ fun t ht => hm t (List.mem_cons_of_mem _ ht)
    exact go _ _ fun t ht => ht
/-- what a turning is -/
structure Turn (n : Nat) (ts : List (Int × Int)) (x : List Int) : Prop where
  len : x.length = n
  lt : ∀ z ∈ x, z ∈ rangeI n
  nd : x.Nodup
  tie : ∀ i j : Nat, i < n → j < n → Tb ts i j = Tb ts (atZ x i) (atZ x j)
theorem atZ_get {x : List Int} {k : Nat} (h : k < x.length) : atZ x k = x[k] := by
  unfold atZ
  simp [List.getD_eq_getElem?_getD, List.getElem?_eq_getElem h]
theorem val_nodup {ts : List (Int × Int)} {n : Nat} {x : List Int} (h : Val (tnL ts) n x) : x.Nodup := by
  unfold List.Nodup
  rw [List.pairwise_iff_getElem]
  intro i j hi hj hij e
  have h1 := (h j hj).1
  unfold tnL at h1
  rw [Bool.and_eq_true] at h1
  have h2 : atZ x j ∉ x.take j := by simpa using h1.1
  apply h2
  rw [atZ_get hj, ← e, List.mem_take_iff_getElem]
  exact ⟨i, by omega, rfl⟩
theorem val_turn {ts : List (Int × Int)} {n : Nat} {x : List Int} (h0 : ∀ i : Int, Tb ts i i = false) (h : Val (tnL ts) n x) (hl : x.length = n) : Turn n ts x := by
  have lt : ∀ i j : Nat, i < j → j < n → Tb ts i j = Tb ts (atZ x i) (atZ x j) := by
    intro i j hij hj
    have h1 := (h j (by omega)).1
    unfold tnL at h1
    rw [Bool.and_eq_true, List.all_eq_true] at h1
    have h2 := h1.2 i (by rw [rangeI_mem, List.length_take]; omega)
    rw [List.length_take, show min j x.length = j by omega] at h2
    have e : atZ (x.take j) i = atZ x i := by
      unfold atZ
      simp only [Int.toNat_natCast, List.getD_eq_getElem?_getD]
      rw [List.getElem?_take, if_pos hij]
    rw [e] at h2
    exact eq_of_beq h2
  refine ⟨hl, fun z hz => ?_, val_nodup h, fun i j hi hj => ?_⟩
  · obtain ⟨k, hk, rfl⟩ := List.mem_iff_getElem.mp hz
    rw [← atZ_get hk]
    exact (h k hk).2
  · rcases Nat.lt_trichotomy i j with hij | hij | hij
    · exact lt i j hij hj
    · subst hij; rw [h0, h0]
    · rw [Tb_symm, lt j i hij hi, Tb_symm]
theorem perm_of {n : Nat} {x : List Int} (hl : x.length = n) (h : ∀ z ∈ x, z ∈ rangeI n) (hn : x.Nodup) : x.Perm (rangeI n) := perm_incl hn h (by rw [rangeI_len]; omega)
theorem map_at {n : Nat} {x : List Int} (hl : x.length = n) : (rangeI n).map (atZ x) = x := by
  apply List.ext_getElem
  · rw [List.length_map, rangeI_len, hl]
  · intro i h1 h2
    rw [List.getElem_map]
    have : (rangeI n)[i]'(by rw [List.length_map] at h1; exact h1) = (i : Int) := by
      unfold rangeI; simp
    rw [this, atZ_get h2]
theorem Turn.degs {n : Nat} {ts : List (Int × Int)} {x : List Int} (t : Turn n ts x) {i : Nat} (hi : i < n) : degT n ts (atZ x i) = degT n ts i := by
  have hp := perm_of t.len t.lt t.nd
  unfold degT
  generalize hz : atZ x i = z
  have e : ((rangeI n).map fun j => Tb ts z j).count true = (x.map fun j => Tb ts z j).count true := (hp.symm.map _).count_eq _
  rw [e]
  have e2 : x.map (fun j => Tb ts z j) = ((rangeI n).map (atZ x)).map fun j => Tb ts z j := by rw [map_at t.len]
  rw [e2, List.map_map, ← hz]
  congr 1
  refine List.map_congr_left fun j hj => ?_
  obtain ⟨j0, j1⟩ := rangeI_mem.mp hj
  obtain ⟨k, rfl⟩ := Int.eq_ofNat_of_zero_le j0
  exact (t.tie i k hi (by omega)).symm
theorem may_turn_ok {n : Nat} {ts : List (Int × Int)} {sm : List Int} {there : Int} (hn : n ≤ 10) (hl : sm.length < n) (hs : ∀ z ∈ sm, z ∈ rangeI n) (ht : there ∈ rangeI n) {X : XF} {Q : R → S → Prop} (h : ∀ fin, Q (.d (.bool (tnP n ts sm there))) fin) :
    m_may_turn [.d (.list ((mat n (Tb ts)).map .list)), .d (tupI sm), .d (.int there)] X Q := by
  unfold m_may_turn b_may_turn
  obtain ⟨t0, t1⟩ := rangeI_mem.mp ht
  refine st_sem rfl ?_
  rw [show tupI sm = PyData.tuple (sm.map .int) from rfl]
  array_get_dec
  refine st_ite (fun q => ?_) (fun q => ?_)
  · array_get_dec
    rw [show tnP n ts sm there = false by unfold tnP tnL; rw [q]; rfl] at h
    exact h _
  · array_get_dec
    refine st_ix_l (row_at t0 t1) ?_
    array_get_dec
    refine st_countBs ?_
    array_get_dec
    rw [List.length_map]
    refine st_ix_l (row_at (by omega) (by omega)) ?_
    array_get_dec
    refine st_countBs ?_
    array_get_dec
    refine st_ite (fun q2 => ?_) (fun q2 => ?_)
    · array_get_dec
      have q2 : ¬ degT n ts there = degT n ts sm.length := by
        intro e
        have e : (((rangeI n).map fun j => Tb ts there j).count true : Nat) = ((rangeI n).map fun j => Tb ts sm.length j).count true := e
        rw [e] at q2
        simp at q2
      rw [show tnP n ts sm there = false by unfold tnP; rw [decide_eq_false q2, Bool.and_false]] at h
      exact h _
    · array_get_dec
      have q2 : degT n ts there = degT n ts sm.length := by
        have q2 : (((rangeI n).map fun j => Tb ts there j).count true : Int) = (((rangeI n).map fun j => Tb ts sm.length j).count true : Nat) := by simpa using q2
        unfold degT
        omega
      refine ⟨by rw [enum_ints', List.length_map, List.length_range]; show _ ≤ 16777216; omega, ?_⟩
      rw [enum_ints']
      array_get_dec
      refine comp_list (fun (j : Nat) => .tuple [.int (j : Int), .int (atZ sm (j : Int))]) (fun (j : Nat) => .bool (Tb ts j sm.length == Tb ts (atZ sm j) there)) _ (fun j hj kT hkT => ?_) ?_
      · have hj := List.mem_range.mp hj
        obtain ⟨z0, z1⟩ := rangeI_mem.mp (hs _ (atZ_in hj))
        array_get_dec
        refine st_ix_l (row_at (by omega) (by omega)) ?_
        array_get_dec
        refine st_ix_l (cell_at (by omega) (by omega)) ?_
        array_get_dec
        refine st_ix_l (row_at z0 z1) ?_
        array_get_dec
        refine st_ix_l (cell_at t0 t1) ?_
        array_get_dec
        exact hkT
      · array_get_dec
        refine st_all_map ?_
        array_get_dec
        have e : tnP n ts sm there = (List.range sm.length).all fun (j : Nat) => Tb ts j sm.length == Tb ts (atZ sm j) there := by
          unfold tnP tnL
          rw [q, decide_eq_true q2]
          unfold rangeI
          rw [List.all_map]
          simp [Function.comp_def]
        rw [e] at h
        exact h _
theorem go_on_ok {n : Nat} {ts : List (Int × Int)} {most : Nat} (hn : n ≤ 10) (hm : most ≤ 1000) : ∀ (f N : Nat) (sm : List Int) (found : List (List Int)), f < N → sm.length + f = n → (∀ z ∈ sm, z ∈ rangeI n) → found.length ≤ most → ∀ (X : XF) (Q : R → S → Prop),
    Q (.d .none) [.d (.list ((mat n (Tb ts)).map .list)), .d (tupI sm), .d (.int most), .l ((gos (tnP n ts) n most f sm found).map tupI)] → m_go_on N [.d (.list ((mat n (Tb ts)).map .list)), .d (tupI sm), .d (.int most), .l (found.map tupI)] X Q
  | _, 0, _, _, hN, _, _, _ => by omega
  | 0, N + 1, sm, found, hN, hl, hs, hf => fun X Q h => by
    show semOf 4 5 (b_go_on (m_go_on N)) _ X Q
    unfold b_go_on
    refine st_sem rfl ?_
    rw [show tupI sm = PyData.tuple (sm.map .int) from rfl]
    array_get_dec
    rw [List.length_map, List.length_map, mat_len]
    refine st_iteT (decide_eq_true (by omega)) ?_
    array_get_dec
    refine st_append (by rw [List.length_map]; show _ < 16777216; omega) ?_
    array_get_dec
    have e : found.map tupI ++ [PyData.tuple (sm.map .int)] = (gos (tnP n ts) n most 0 sm found).map tupI := by
      show _ = (found ++ [sm]).map tupI
      rw [List.map_append]; rfl
    rw [e]
    exact h
  | f + 1, N + 1, sm, found, hN, hl, hs, hf => fun X Q h => by
    show semOf 4 5 (b_go_on (m_go_on N)) _ X Q
    unfold b_go_on
    refine st_sem rfl ?_
    rw [show tupI sm = PyData.tuple (sm.map .int) from rfl]
    array_get_dec
    rw [List.length_map, List.length_map, mat_len]
    refine st_iteF (decide_eq_false (by omega)) ?_
    array_get_dec
    rw [List.length_map, mat_len]
    refine ⟨by unfold lim62; omega, ?_⟩
    rw [Int.toNat_natCast, rangeD_map]
    refine loop_list PyData.int (fun l s => ∃ fd : List (List Int), (∀ z ∈ l, z ∈ rangeI n) ∧ fd.length ≤ most + 1 ∧ l.foldl (fun fd there => if decide (fd.length ≤ most) && tnP n ts sm there then gos (tnP n ts) n most f (sm ++ [there]) fd else fd) fd = gos (tnP n ts) n most (f + 1) sm found ∧ s = [.d (.list ((mat n (Tb ts)).map .list)), .d (tupI sm), .d (.int most), .l (fd.map tupI), .no]) ?_ ?_ _ _ ⟨found, fun z hz => hz, by omega, gos_succ.symm, rfl⟩
    · rintro s ⟨fd, _, _, e, rfl⟩
      have e : fd = gos (tnP n ts) n most (f + 1) sm found := e
      subst e
      array_get_dec
      exact h
    · rintro t l s k ⟨fd, hl2, hfl, e, rfl⟩ hk
      have ht := hl2 t List.mem_cons_self
      have hl3 : ∀ z ∈ l, z ∈ rangeI n := fun z hz => hl2 z (List.mem_cons_of_mem _ hz)
      rw [List.foldl_cons] at e
      array_get_dec
      rw [List.length_map]
      refine st_ite (fun q => ?_) (fun q => ?_)
      · have q : fd.length ≤ most := by have := of_decide_eq_true q; omega
        array_get_dec
        refine may_turn_ok hn (by omega) hs ht fun fin => ?_
        array_get_dec
        refine st_ite (fun q2 => ?_) (fun q2 => ?_)
        · rw [if_pos (by rw [decide_eq_true q, q2]; rfl)] at e
          rw [show tupI sm = PyData.tuple (sm.map .int) from rfl]
          array_get_dec
          refine st_add_t (by rw [List.length_map]; show _ + 1 ≤ 16777216; omega) ?_
          rw [show sm.map PyData.int ++ [PyData.int t] = (sm ++ [t]).map PyData.int by simp]
          array_get_dec
          refine go_on_ok hn hm f N (sm ++ [t]) fd (by omega) (by rw [List.length_append, List.length_singleton]; omega) (fun z hz => ?_) q _ _ ?_
          · rcases List.mem_append.mp hz with hz | hz
            · exact hs z hz
            · rw [List.mem_singleton] at hz; subst hz; exact ht
          · array_get_dec
            exact hk _ ⟨_, hl3, gos_len f _ _ q, e, rfl⟩
        · rw [if_neg (by rw [q2, Bool.and_false]; simp)] at e
          array_get_dec
          exact hk _ ⟨fd, hl3, hfl, e, rfl⟩
      · have q : ¬ fd.length ≤ most := by have := of_decide_eq_false q; omega
        rw [if_neg (by rw [decide_eq_false q]; simp)] at e
        array_get_dec
        exact hk _ ⟨fd, hl3, hfl, e, rfl⟩
theorem turned_on_ok {n : Int} {ts : List (Int × Int)} {most : Nat} (g : Good n ts) (hm : most ≤ 1000) : ∀ (f N : Nat) (sm : List Int) (found : List (List Int)), f < N → sm.length + f = n.toNat → (∀ z ∈ sm, z ∈ rangeI n.toNat) → found.length ≤ most → ∀ (X : XF) (Q : R → S → Prop),
    Q (.d .none) [.d (webD n ts), .d (tupI sm), .d (.int most), .l ((gos (tnL ts) n.toNat most f sm found).map tupI)] → m__law_e_turned_on N [.d (webD n ts), .d (tupI sm), .d (.int most), .l (found.map tupI)] X Q
  | _, 0, _, _, hN, _, _, _ => by omega
  | 0, N + 1, sm, found, hN, hl, hs, hf => fun X Q h => by
    have n0 := g.n0
    show semOf 4 7 (b__law_e_turned_on (m__law_e_turned_on N)) _ X Q
    unfold b__law_e_turned_on
    refine st_sem rfl ?_
    rw [show tupI sm = PyData.tuple (sm.map .int) from rfl]
    array_get_dec
    rw [List.length_map]
    refine st_iteT (decide_eq_true (by omega)) ?_
    array_get_dec
    have n10 := g.n10
    refine st_append (by rw [List.length_map]; show _ < 16777216; omega) ?_
    array_get_dec
    have e : found.map tupI ++ [PyData.tuple (sm.map .int)] = (gos (tnL ts) n.toNat most 0 sm found).map tupI := by
      show _ = (found ++ [sm]).map tupI
      rw [List.map_append]; rfl
    rw [e]
    exact h
  | f + 1, N + 1, sm, found, hN, hl, hs, hf => fun X Q h => by
    have n0 := g.n0
    have n10 := g.n10
    show semOf 4 7 (b__law_e_turned_on (m__law_e_turned_on N)) _ X Q
    unfold b__law_e_turned_on
    refine st_sem rfl ?_
    rw [show tupI sm = PyData.tuple (sm.map .int) from rfl]
    array_get_dec
    rw [List.length_map]
    refine st_iteF (decide_eq_false (by omega)) ?_
    array_get_dec
    refine ⟨by unfold lim62; omega, ?_⟩
    rw [List.length_map, rangeD_map]
    refine loop_list PyData.int (fun l s => ∃ fd : List (List Int), (∀ z ∈ l, z ∈ rangeI n.toNat) ∧ fd.length ≤ most + 1 ∧ l.foldl (fun fd there => if decide (fd.length ≤ most) && tnL ts sm there then gos (tnL ts) n.toNat most f (sm ++ [there]) fd else fd) fd = gos (tnL ts) n.toNat most (f + 1) sm found ∧ s = [.d (webD n ts), .d (tupI sm), .d (.int most), .l (fd.map tupI), .d (.int sm.length), .no, .no]) ?_ ?_ _ _ ⟨found, fun z hz => hz, by omega, gos_succ.symm, rfl⟩
    · rintro s ⟨fd, _, _, e, rfl⟩
      have e : fd = gos (tnL ts) n.toNat most (f + 1) sm found := e
      subst e
      array_get_dec
      exact h
    · rintro t l s k ⟨fd, hl2, hfl, e, rfl⟩ hk
      have ht := hl2 t List.mem_cons_self
      have hl3 : ∀ z ∈ l, z ∈ rangeI n.toNat := fun z hz => hl2 z (List.mem_cons_of_mem _ hz)
      rw [List.foldl_cons] at e
      rw [show tupI sm = PyData.tuple (sm.map .int) from rfl]
      array_get_dec
      refine st_ite (fun q1 => ?_) (fun q1 => ?_)
      · array_get_dec
        rw [List.length_map]
        refine st_ite (fun q => ?_) (fun q => ?_)
        · have q : fd.length ≤ most := by have := of_decide_eq_true q; omega
          array_get_dec
          refine ⟨by unfold lim62; omega, ?_⟩
          rw [Int.toNat_natCast, rangeD_map]
          refine ⟨by rw [List.length_map, rangeI_len]; show _ ≤ 16777216; omega, ?_⟩
          array_get_dec
          refine comp_list PyData.int (fun z => .bool (Tb ts z sm.length == Tb ts (atZ sm z) t)) _ (fun z hz kT hkT => ?_) ?_
          · obtain ⟨z0, z1⟩ := rangeI_mem.mp hz
            array_get_dec
            refine e_tied_ok fun fin => ?_
            array_get_dec
            refine st_ix_t (atZ_ok z0 z1) ?_
            array_get_dec
            refine e_tied_ok fun fin => ?_
            array_get_dec
            exact hkT
          · array_get_dec
            refine st_all_map ?_
            array_get_dec
            have ep : ((rangeI sm.length).all fun z => Tb ts z sm.length == Tb ts (atZ sm z) t) = tnL ts sm t := by
              unfold tnL
              rw [q1, Bool.true_and]
            rw [ep]
            refine st_ite (fun q2 => ?_) (fun q2 => ?_)
            · rw [if_pos (by rw [decide_eq_true q, q2]; rfl)] at e
              array_get_dec
              refine st_add_t (by rw [List.length_map]; show _ + 1 ≤ 16777216; omega) ?_
              rw [show sm.map PyData.int ++ [PyData.int t] = (sm ++ [t]).map PyData.int by simp]
              array_get_dec
              refine turned_on_ok g hm f N (sm ++ [t]) fd (by omega) (by rw [List.length_append, List.length_singleton]; omega) (fun z hz => ?_) q _ _ ?_
              · rcases List.mem_append.mp hz with hz | hz
                · exact hs z hz
                · rw [List.mem_singleton] at hz; subst hz; exact ht
              · array_get_dec
                exact hk _ ⟨_, hl3, gos_len f _ _ q, e, rfl⟩
            · rw [if_neg (by rw [q2, Bool.and_false]; simp)] at e
              array_get_dec
              exact hk _ ⟨fd, hl3, hfl, e, rfl⟩
        · have q : ¬ fd.length ≤ most := by have := of_decide_eq_false q; omega
          rw [if_neg (by rw [decide_eq_false q]; simp)] at e
          array_get_dec
          exact hk _ ⟨fd, hl3, hfl, e, rfl⟩
      · rw [if_neg (by unfold tnL; rw [q1, Bool.false_and, Bool.and_false]; simp)] at e
        array_get_dec
        exact hk _ ⟨fd, hl3, hfl, e, rfl⟩
theorem part_ok {a b : Int} (ha : 0 ≤ a) (hb : 0 < b) (hs : b.natAbs < 2 ^ 8999) {X : XF} {Q : R → S → Prop} (h : ∀ fin, Q (.d (pairD (low a b))) fin) : m__law_e_part [.d (.int a), .d (.int b)] X Q := by
  obtain ⟨a', rfl⟩ := Int.eq_ofNat_of_zero_le ha
  obtain ⟨b', rfl⟩ := Int.eq_ofNat_of_zero_le (Int.le_of_lt hb)
  unfold m__law_e_part b__law_e_part
  refine st_sem rfl ?_
  array_get_dec
  refine loop_while (fun m s => ∃ x : Nat, s = [.d (.int a'), .d (.int b'), .d (.int x), .d (.int m)] ∧ Nat.gcd x m = Int.gcd a' b') ?_ b' ⟨a', rfl, rfl⟩
  rintro m s k ⟨x, rfl, hg⟩ hk
  array_get_dec
  refine st_ite (fun c => ?_) (fun c => ?_)
  · have c : ¬ (m : Int) = 0 := by simpa using c
    array_get_dec
    refine hk (x % m) _ (Nat.mod_lt _ (by omega)) ⟨m, ?_, ?_⟩
    · show [SV.d (.int _), SV.d (.int _), SV.d (.int _), SV.d (.int _)] = _
      rw [gcd_pair (y := 0)]
    · rw [← hg, Nat.gcd_comm m, Nat.gcd_comm x m, Nat.gcd_rec m x]
  · have c : (m : Int) = 0 := by simpa using c
    obtain rfl : m = 0 := by omega
    rw [Nat.gcd_zero_right] at hg
    subst hg
    have hg : 0 < Int.gcd a' b' := Int.gcd_pos_of_ne_zero_right _ (by omega)
    have hle : Int.gcd a' b' ≤ b' := Nat.le_of_dvd (by omega) (Int.gcd_dvd_natAbs_right _ _)
    have ok : okD (Int.gcd a' b' : Nat) := okD_of 8999 (by omega) (by
      rw [Int.natAbs_natCast] at hs ⊢
      omega)
    array_get_dec
    refine st_fdiv_i ok ?_
    array_get_dec
    refine st_fdiv_i ok ?_
    array_get_dec
    exact h _
def atP (p : Int) (t : Int × Int) : Bool := decide (t.1 = p) || decide (t.2 = p)
theorem ties_at {n : Int} {ts : List (Int × Int)} (g : Good n ts) {p : Int} (p0 : 0 ≤ p) (p1 : p < n) : (ts.filter (atP p)).length = degT n.toNat ts p := by
  have n0 := g.n0
  have dn : degT n.toNat ts p = ((rangeI n.toNat).filter fun j => Tb ts p j).length := by
    unfold degT
    rw [List.count_eq_countP, List.countP_map, List.countP_eq_length_filter]
    congr 1
    refine List.filter_congr fun j _ => ?_
    simp [Function.comp]
  rw [dn]
  have nd1 : ((ts.filter (atP p)).map fun t => t.1 + t.2 - p).Nodup := by
    refine List.pairwise_map.mpr ((List.Pairwise.imp_of_mem ?_) ((show ts.Nodup from g.up.imp fun {p q} h e => by subst e; unfold ltPr at h; simp at h).filter (atP p)))
    intro a b ha hb hne e
    have ha2 := (List.mem_filter.mp ha).2
    have hb2 := (List.mem_filter.mp hb).2
    have la := g.ties a (List.mem_filter.mp ha).1
    have lb := g.ties b (List.mem_filter.mp hb).1
    simp only [atP, Bool.or_eq_true, decide_eq_true_eq] at ha2 hb2
    apply hne
    apply Prod.ext <;> omega
  have nd2 : ((rangeI n.toNat).filter fun j => Tb ts p j).Nodup := range_nd.filter _
  have h1 := nodup_le nd1 (m := (rangeI n.toNat).filter fun j => Tb ts p j) fun z hz => by
    obtain ⟨t, ht, rfl⟩ := List.mem_map.mp hz
    obtain ⟨hm, ha⟩ := List.mem_filter.mp ht
    have lt := g.ties t hm
    simp only [atP, Bool.or_eq_true, decide_eq_true_eq] at ha
    refine List.mem_filter.mpr ⟨rangeI_mem.mpr (by omega), ?_⟩
    unfold Tb
    refine decide_eq_true ?_
    rw [show (min p (t.1 + t.2 - p), max p (t.1 + t.2 - p)) = t from Prod.ext (by show min p _ = _; omega) (by show max p _ = _; omega)]
    exact hm
  have h2 := nodup_le nd2 (m := (ts.filter (atP p)).map fun t => t.1 + t.2 - p) fun z hz => by
    obtain ⟨hz1, hz2⟩ := List.mem_filter.mp hz
    have hz2 : (min p z, max p z) ∈ ts := of_decide_eq_true hz2
    have lt := g.ties _ hz2
    simp only at lt
    refine List.mem_map.mpr ⟨_, List.mem_filter.mpr ⟨hz2, ?_⟩, ?_⟩
    · simp only [atP, Bool.or_eq_true, decide_eq_true_eq]
      omega
    · simp only
      omega
  rw [List.length_map] at h1 h2
  omega
def leads0 (n : Nat) (ts : List (Int × Int)) (p : Int) : Bool := decide (gos (tnL ts) n 0 (n - 1) [p] [] ≠ [])
def ALk (n : Nat) (ts : List (Int × Int)) : Prop := ∀ p : Int, 1 ≤ p → p < n → degT n ts p = degT n ts 0 ∧ leads0 n ts p = true
theorem val_one {n : Nat} {ts : List (Int × Int)} {p : Int} (h : p ∈ rangeI n) : Val (tnL ts) n [p] := by
  intro k hk
  rw [List.length_singleton] at hk
  obtain rfl : k = 0 := by omega
  refine ⟨?_, h⟩
  show tnL ts [] p = true
  unfold tnL
  simp [rangeI]
theorem tnP_sub {n : Nat} {ts : List (Int × Int)} {x : List Int} {t : Int} (h : tnP n ts x t = true) : tnL ts x t = true := by
  unfold tnP at h
  rw [Bool.and_eq_true] at h
  exact h.1
theorem tn_dead {n : Nat} {ts : List (Int × Int)} (h0 : ∀ i : Int, Tb ts i i = false) {x y : List Int} {t : Int} (hv : Val (tnL ts) n y) (hl : y.length = n) (hpre : (x ++ [t]) <+: y) (hq : tnL ts x t = true) : tnP n ts x t = true := by
  unfold tnP
  rw [hq, Bool.true_and]
  have ht := val_turn h0 hv hl
  obtain ⟨r, rfl⟩ := hpre
  have hx : x.length < n := by rw [← hl]; simp
  have := ht.degs (i := x.length) hx
  rw [List.append_assoc] at this
  have e : atZ (x ++ ([t] ++ r)) x.length = t := by unfold atZ; simp
  rw [e] at this
  exact decide_eq_true this
theorem tn_same1 {n : Nat} {ts : List (Int × Int)} (h0 : ∀ i : Int, Tb ts i i = false) {p : Int} (hp : p ∈ rangeI n) (hn : 0 < n) : gos (tnP n ts) n 0 (n - 1) [p] [] = gos (tnL ts) n 0 (n - 1) [p] [] :=
  (gos_same (fun x t h => tnP_sub h) (fun x y t hv hl hpre hq => tn_dead h0 hv hl hpre hq) (n - 1) [p] [] (by rw [List.length_singleton]; omega) (val_one hp)).symm
theorem st_eq_tups0 {F : List (List Int)} {k : R → Prop} (h : k (.d (.bool (decide (F = []))))) : cEq (.list (F.map tupI)) (.list []) k := st_eq_tups (G := []) h
theorem may_turn0_ok {n : Nat} {ts : List (Int × Int)} {there : Int} (hn : n ≤ 10) (h0 : 0 < n) (ht : there ∈ rangeI n) {X : XF} {Q : R → S → Prop} (h : ∀ fin, Q (.d (.bool (decide (degT n ts there = degT n ts 0)))) fin) :
    m_may_turn [.d (.list ((mat n (Tb ts)).map .list)), .d (.tuple []), .d (.int there)] X Q := by
  refine may_turn_ok (sm := []) hn h0 (fun z hz => nomatch hz) ht fun fin => ?_
  have e : tnP n ts [] there = decide (degT n ts there = degT n ts 0) := by
    unfold tnP tnL
    simp [rangeI]
  rw [e]
  exact h _
theorem turnings_in0_ok {n : Int} {ts : List (Int × Int)} (g : Good n ts) {p : Int} (p0 : 0 ≤ p) (p1 : p < n) {X : XF} {Q : R → S → Prop} (h : ∀ fin, Q (.own (.l ((gos (tnP n.toNat ts) n.toNat 0 (n.toNat - 1) [p] []).map tupI))) fin) :
    m_turnings_in [.d (webD n ts), .d (.tuple [.int p]), .d (.int 0)] X Q := by
  have n10 := g.n10
  unfold m_turnings_in b_turnings_in
  refine st_sem rfl ?_
  array_get_dec
  refine rows_of_ok g fun fin => ?_
  array_get_dec
  refine go_on_ok (n := n.toNat) (ts := ts) (most := 0) (by omega) (by decide) (n.toNat - 1) 16 [p] [] (by omega) (by rw [List.length_singleton]; omega) (fun z hz => by rw [List.mem_singleton] at hz; subst hz; exact rangeI_mem.mpr (by omega)) (by simp) _ _ ?_
  generalize gos (tnP n.toNat ts) n.toNat 0 (n.toNat - 1) [p] [] = T at *
  array_get_dec
  exact h _
theorem is_alike_in_ok {n : Int} {ts : List (Int × Int)} (g : Good n ts) {X : XF} {Q : R → S → Prop} (h : ∀ fin, Q (.d (.bool (dec (ALk n.toNat ts)))) fin) : m_is_alike_in [.d (webD n ts)] X Q := by
  have n0 := g.n0
  have n10 := g.n10
  have no := good_no g
  unfold m_is_alike_in b_is_alike_in
  refine st_sem rfl ?_
  array_get_dec
  refine ⟨by unfold lim62; omega, by unfold lim62; omega, ?_⟩
  array_get_dec
  refine loop_range (lo := 1) (hi := n) (fun i s => s = [.d (webD n ts), .no] ∧ ∀ p : Int, 1 ≤ p → p < i → degT n.toNat ts p = degT n.toNat ts 0 ∧ leads0 n.toNat ts p = true) ?_ ?_ ⟨rfl, fun p h1 h2 => by omega⟩
  · rintro s ⟨rfl, ha⟩
    array_get_dec
    rw [dec_t (show ALk n.toNat ts from fun p h1 h2 => ha p h1 (by omega))] at h
    exact h _
  · rintro i s k h1 h2 ⟨rfl, ha⟩ hk
    have hi : i ∈ rangeI n.toNat := rangeI_mem.mpr (by omega)
    have same := tn_same1 no hi (by omega)
    array_get_dec
    refine rows_of_ok g fun fin => ?_
    array_get_dec
    refine may_turn0_ok (by omega) (by omega) hi fun fin => ?_
    array_get_dec
    refine st_ite (fun q => ?_) (fun q => ?_)
    · array_get_dec
      have hd : ¬ degT n.toNat ts i = degT n.toNat ts 0 := by simpa using q
      rw [dec_f (show ¬ ALk n.toNat ts from fun hA => hd (hA i h1 (by omega)).1)] at h
      exact h _
    · array_get_dec
      have hd : degT n.toNat ts i = degT n.toNat ts 0 := by simpa using q
      refine turnings_in0_ok g (by omega) h2 fun fin => ?_
      rw [same]
      array_get_dec
      have hL : leads0 n.toNat ts i = decide (gos (tnL ts) n.toNat 0 (n.toNat - 1) [i] [] ≠ []) := rfl
      generalize gos (tnL ts) n.toNat 0 (n.toNat - 1) [i] [] = T at *
      refine st_eq_tups0 ?_
      array_get_dec
      refine st_ite (fun q2 => ?_) (fun q2 => ?_)
      · array_get_dec
        have q2 := of_decide_eq_true q2
        rw [dec_f (show ¬ ALk n.toNat ts from fun hA => by
          have := (hA i h1 (by omega)).2
          rw [hL, q2] at this
          simp at this)] at h
        exact h _
      · array_get_dec
        have q2 := of_decide_eq_false q2
        refine hk _ ⟨rfl, fun p h3 h4 => ?_⟩
        by_cases e : p = i
        · subst e
          exact ⟨hd, by rw [hL]; exact decide_eq_true q2⟩
        · exact ha p h3 (by omega)
theorem is_alike_ok {n : Int} {ts : List (Int × Int)} (g : Good n ts) {X : XF} {Q : R → S → Prop} (h : ∀ fin, Q (.d (.bool (dec (ALk n.toNat ts)))) fin) : m_is_alike [.d (webD n ts)] X Q := by
  unfold m_is_alike b_is_alike
  refine st_sem rfl ?_
  array_get_dec
  refine need_web_ok g fun fin => ?_
  array_get_dec
  refine is_alike_in_ok g fun fin => ?_
  array_get_dec
  exact h _
theorem in_tie {p : Int} {t : Int × Int} {k : R → Prop} (h : k (.d (.bool (atP p t)))) : cIn (.int p) (pairD t) k := by
  refine st_in_it (ks := [t.1, t.2]) ?_
  rw [show decide (p ∈ [t.1, t.2]) = atP p t by
    unfold atP
    rw [Bool.eq_iff_iff]
    simp only [List.mem_cons, List.not_mem_nil, or_false, decide_eq_true_eq, Bool.or_eq_true]
    omega]
  exact h
theorem law_alike_ok {n : Int} {ts : List (Int × Int)} (g : Good n ts) {X : XF} {Q : R → S → Prop} (h : ∀ fin, Q (.d (.bool (dec (ALk n.toNat ts)))) fin) : m__law_e_is_alike [.d (webD n ts)] X Q := by
  have n0 := g.n0
  have n10 := g.n10
  have few := g.few
  unfold m__law_e_is_alike b__law_e_is_alike
  refine st_sem rfl ?_
  array_get_dec
  refine ⟨by unfold lim62; omega, ?_⟩
  refine ⟨by rw [rangeD_len]; show _ ≤ 16777216; omega, ?_⟩
  array_get_dec
  rw [rangeD_map]
  refine comp_list PyData.int (fun p => .int ((degT n.toNat ts p : Nat) : Int)) _ (fun p hp kT hkT => ?_) ?_
  · obtain ⟨p0, p1⟩ := rangeI_mem.mp hp
    array_get_dec
    refine ⟨by rw [List.length_map]; show _ ≤ 16777216; omega, ?_⟩
    array_get_dec
    refine comp_filter pairD pairD (atP p) _ (fun t ht kT2 kF2 hT hF => ?_) ?_
    · array_get_dec
      refine in_tie ?_
      array_get_dec
      refine st_ite (fun q => ?_) (fun q => ?_)
      · array_get_dec
        exact hT q
      · exact hF q
    · array_get_dec
      rw [List.length_map, ties_at g p0 (by omega)]
      exact hkT
  · array_get_dec
    rw [show (rangeI n.toNat).map (fun p => PyData.int ((degT n.toNat ts p : Nat) : Int)) = ((rangeI n.toNat).map fun p => ((degT n.toNat ts p : Nat) : Int)).map PyData.int by rw [List.map_map]; rfl]
    refine st_lenSet (by rw [List.length_map, rangeI_len]; omega) fun ms nd hm => ?_
    array_get_dec
    have inn : ∀ p : Int, 0 ≤ p → p < n → ((degT n.toNat ts p : Nat) : Int) ∈ ms := fun p p0 p1 => (hm _).mpr (List.mem_map.mpr ⟨p, rangeI_mem.mpr (by omega), rfl⟩)
    refine st_ite (fun q => ?_) (fun q => ?_)
    · array_get_dec
      have q := of_decide_eq_true q
      rw [dec_f (show ¬ ALk n.toNat ts from fun hA => by
        have : ms.length ≤ [((degT n.toNat ts 0 : Nat) : Int)].length := nodup_le nd fun z hz => by
          obtain ⟨p, hp, rfl⟩ := List.mem_map.mp ((hm z).mp hz)
          obtain ⟨p0, p1⟩ := rangeI_mem.mp hp
          rw [List.mem_singleton]
          by_cases e : p = 0
          · rw [e]
          · rw [(hA p (by omega) p1).1]
        rw [List.length_singleton] at this
        omega)] at h
      exact h _
    · array_get_dec
      have q := of_decide_eq_false q
      have all : ∀ p : Int, 0 ≤ p → p < n → degT n.toNat ts p = degT n.toNat ts 0 := fun p p0 p1 => by
        have h1 := inn p p0 p1
        have h2 := inn 0 (by omega) (by omega)
        match ms, q, h1, h2 with
        | [], _, h1, _ => cases h1
        | [a], _, h1, h2 =>
          rw [List.mem_singleton] at h1 h2
          omega
        | a :: b :: r, q, _, _ => simp at q; omega
      refine ⟨by unfold lim62; omega, by unfold lim62; omega, ?_⟩
      array_get_dec
      refine loop_range (lo := 1) (hi := n) (fun i s => s = [.d (webD n ts), .l (((rangeI n.toNat).map fun p => ((degT n.toNat ts p : Nat) : Int)).map PyData.int), .no, .no, .no] ∧ ∀ p : Int, 1 ≤ p → p < i → leads0 n.toNat ts p = true) ?_ ?_ ⟨rfl, fun p h1 h2 => by omega⟩
      · rintro s ⟨rfl, ha⟩
        array_get_dec
        rw [dec_t (show ALk n.toNat ts from fun p h1 h2 => ⟨all p (by omega) (by omega), ha p h1 (by omega)⟩)] at h
        exact h _
      · rintro i s k h1 h2 ⟨rfl, ha⟩ hk
        array_get_dec
        refine turned_on_ok g (most := 0) (by decide) (n.toNat - 1) 16 [i] [] (by omega) (by rw [List.length_singleton]; omega) (fun z hz => by rw [List.mem_singleton] at hz; subst hz; exact rangeI_mem.mpr (by omega)) (by simp) _ _ ?_
        have hL : leads0 n.toNat ts i = decide (gos (tnL ts) n.toNat 0 (n.toNat - 1) [i] [] ≠ []) := rfl
        generalize gos (tnL ts) n.toNat 0 (n.toNat - 1) [i] [] = T at *
        array_get_dec
        refine st_eq_tups0 ?_
        array_get_dec
        refine st_ite (fun q2 => ?_) (fun q2 => ?_)
        · array_get_dec
          have q2 := of_decide_eq_true q2
          rw [dec_f (show ¬ ALk n.toNat ts from fun hA => by
            have := (hA i h1 (by omega)).2
            rw [hL, q2] at this
            simp at this)] at h
          exact h _
        · array_get_dec
          have q2 := of_decide_eq_false q2
          refine hk _ ⟨rfl, fun p h3 h4 => ?_⟩
          by_cases e : p = i
          · subst e
            rw [hL]
            exact decide_eq_true q2
          · exact ha p h3 (by omega)
def Alpha (n : Int) (ts : List (Int × Int)) (a : Nat) : Prop := (∃ T, T.Sublist (rangeI n.toNat) ∧ Apt ts T ∧ T.length = a) ∧ ∀ T, T.Sublist (rangeI n.toNat) → Apt ts T → T.length ≤ a
theorem Alpha.one {n : Int} {ts : List (Int × Int)} {a b : Nat} (h1 : Alpha n ts a) (h2 : Alpha n ts b) : a = b := by
  obtain ⟨⟨T, t1, t2, t3⟩, t4⟩ := h1
  obtain ⟨⟨U, u1, u2, u3⟩, u4⟩ := h2
  have := t4 U u1 u2
  have := u4 T t1 t2
  omega
theorem Alpha.pos {n : Int} {ts : List (Int × Int)} {a : Nat} (h : Alpha n ts a) (hn : 0 < n) : 0 < a := by
  have := h.2 [0] (List.singleton_sublist.mpr (rangeI_mem.mpr (by omega))) (List.pairwise_singleton ..)
  rw [List.length_singleton] at this
  omega
theorem Alpha.le {n : Int} {ts : List (Int × Int)} {a : Nat} (h : Alpha n ts a) : a ≤ n.toNat := by
  obtain ⟨⟨T, t1, _, t3⟩, _⟩ := h
  have := t1.length_le
  rw [rangeI_len] at this
  omega
theorem alpha_ok {n : Int} {ts : List (Int × Int)} (g : Good n ts) {X : XF} {Q : R → S → Prop} (h : ∀ s fin, Alpha n ts s.length → Q (.d (tupI s)) fin) : m_greatest_apart_in [.d (webD n ts)] X Q := by
  unfold m_greatest_apart_in b_greatest_apart_in
  refine st_sem rfl ?_
  array_get_dec
  refine full_apart_in_ok g fun fin => ?_
  array_get_dec
  refine first_greatest_ok (fulls_ne g) (fulls_len g) (fulls_short g) fun s fin h1 h2 => ?_
  array_get_dec
  obtain ⟨c1, c2⟩ := fulls_clq s h1
  refine h s _ ⟨⟨s, c1, c2, rfl⟩, fun T hT hA => ?_⟩
  obtain ⟨S, hS, hl⟩ := fulls_ext g hT hA
  have := h2 S hS
  omega
theorem lowest_pair_ok {a b : Int} (hb : 0 < b) (hs : b.natAbs < 2 ^ 8999) {X : XF} {Q : R → S → Prop} (h : ∀ fin, Q (.d (pairD (low a b))) fin) : m_lowest [.d (.int a), .d (.int b)] X Q := lowest_ok (p := 0) hb hs h
theorem alike_value_ok {n : Int} {ts : List (Int × Int)} (g : Good n ts) {X : XF} {Q : R → S → Prop} (hno : ¬ ALk n.toNat ts → ∀ fin, Q (.d .none) fin) (hyes : ALk n.toNat ts → ∀ a fin, Alpha n ts a → Q (.d (pairD (low n (max 1 a)))) fin) : m_alike_value [.d (webD n ts)] X Q := by
  have n0 := g.n0
  have n10 := g.n10
  unfold m_alike_value b_alike_value
  refine st_sem rfl ?_
  array_get_dec
  refine need_web_ok g fun fin => ?_
  array_get_dec
  refine is_alike_in_ok g fun fin => ?_
  array_get_dec
  by_cases hA : ALk n.toNat ts
  · rw [dec_t hA]
    array_get_dec
    refine st_ite (fun q => ?_) (fun q => ?_)
    · have q := of_decide_eq_true q
      array_get_dec
      have al : Alpha n ts 0 := ⟨⟨[], List.nil_sublist _, .nil, rfl⟩, fun T hT _ => by have := hT.length_le; rw [rangeI_len] at this; omega⟩
      subst q
      exact hyes hA 0 _ al
    · have q := of_decide_eq_false q
      array_get_dec
      refine alpha_ok g fun s fin al => ?_
      have ap := al.pos (by omega)
      have ale := al.le
      rw [show tupI s = PyData.tuple (s.map .int) from rfl]
      array_get_dec
      rw [List.length_map]
      refine lowest_pair_ok (by omega) (Nat.lt_of_lt_of_le (show _ < 100 by omega) (by decide)) fun fin => ?_
      array_get_dec
      have := fun fin => hyes hA s.length fin al
      rw [show (max 1 (s.length : Int)) = (s.length : Int) by omega] at this
      exact this _
  · rw [dec_f hA]
    array_get_dec
    exact hno hA _
theorem st_ne_pp {p q : Int × Int} {k : R → Prop} (h : k (.d (.bool (!decide (p = q))))) : cNe (pairD p) (pairD q) k := by
  refine st_ne (x := pairD p) (y := pairD q) shaped_pairD shaped_pairD ?_
  show k (.d (.bool (!PyData.eqv (pairD p) (pairD q))))
  rw [eqv_pair]
  exact h
end Lk48
namespace Lk48
open PySem Hs
local macro_rules
  | `(tactic| sizeOf_list_dec) => `(tactic| first
    | with_reducible refine st_seq ?_ | with_reducible refine st_asg ?_ | with_reducible refine st_cons ?_ | with_reducible refine st_nil ?_ | with_reducible refine st_C ?_ | with_reducible refine st_op ?_
    | with_reducible refine st_var_d ?_ | with_reducible refine st_var_l ?_ | with_reducible refine st_var_ll ?_ | with_reducible refine st_var_dc ?_
    | with_reducible refine st_look_d ?_ | with_reducible refine st_look_top ?_ | with_reducible refine st_look_top_d ?_ | with_reducible refine st_look_own ?_ | with_reducible refine st_look_top_dc ?_ | with_reducible refine st_look_own_dc ?_ | with_reducible refine st_put_d ?_ | with_reducible refine st_put_own ?_ | with_reducible refine st_put_top_l ?_ | with_reducible refine st_put_top_ll ?_ | with_reducible refine st_put_top_dc ?_
    | ((with_reducible refine st_callF ?_ ?_); eq_refl) | with_reducible refine st_call ?_ | with_reducible refine st_putK_nil ?_ | with_reducible refine st_putK_t ?_ | with_reducible refine st_putK_f ?_ | with_reducible refine st_putK_td ?_ | with_reducible refine st_putK_to ?_ | with_reducible refine st_bind_nil ?_ | with_reducible refine st_bind_f ?_ | with_reducible refine st_bind_tt ?_ | with_reducible refine st_bind_td ?_ | with_reducible refine st_bind_to ?_
    | with_reducible refine st_frz_d ?_ | with_reducible refine st_frz_own ?_ | with_reducible refine st_frz_top ?_ | with_reducible refine st_frz_own_ll ?_ | with_reducible refine st_frz_own_dc ?_ | with_reducible refine st_frz_top_ll ?_ | with_reducible refine st_frz_top_dc ?_ | with_reducible refine st_frzAll_nil ?_ | with_reducible refine st_frzAll_cons ?_
    | with_reducible refine st_if ?_ | with_reducible refine st_B ?_ | with_reducible refine st_and ?_ | with_reducible refine st_or ?_ | with_reducible refine st_not ?_ | with_reducible refine st_yes ?_ | with_reducible refine st_isB ?_ | with_reducible refine st_t ?_ | with_reducible refine st_f ?_ | ((with_reducible refine st_iteT ?_ ?_); decide) | ((with_reducible refine st_iteF ?_ ?_); decide)
    | with_reducible refine st_nt ?_ | with_reducible refine st_nf ?_
    | with_reducible refine st_ret ?_ | with_reducible refine st_next ?_ | with_reducible refine st_retN ?_ | with_reducible refine st_drop ?_ | with_reducible refine st_break ?_ | with_reducible refine st_raise ?_
    | with_reducible refine st_out_d ?_ | with_reducible refine st_out_own ?_ | with_reducible refine st_out_top ?_
    | with_reducible refine st_tup ?_ | with_reducible refine st_lst ?_ | with_reducible refine st_un ?_ | with_reducible refine st_blt ?_ | with_reducible refine st_lookAll_nil ?_ | with_reducible refine st_lookAll_cons ?_
    | with_reducible refine st_unp ?_ | with_reducible refine st_par ?_ | with_reducible refine st_setIx ?_ | with_reducible refine st_onL ?_ | with_reducible refine st_for ?_ | with_reducible refine st_wipe_nil ?_ | with_reducible refine st_wipe_cons ?_ | with_reducible refine st_andV ?_ | with_reducible refine st_orV ?_ | with_reducible refine st_notV ?_ | with_reducible refine st_ifE ?_ | with_reducible refine st_chain ?_
    | with_reducible refine st_sl ?_ | with_reducible refine st_noPart ?_ | with_reducible refine st_part ?_ | with_reducible refine st_lc ?_ | with_reducible refine st_lm ?_
    | with_reducible refine st_seqI ?_ | with_reducible refine st_range1 ?_ | with_reducible refine st_range2 ?_ | with_reducible refine st_enum ?_ | with_reducible refine st_zip ?_
    | with_reducible refine st_nm ?_ | with_reducible refine st_tp ?_ | with_reducible refine st_tps_nil ?_ | with_reducible refine st_tps_cons ?_
    | ((with_reducible refine st_mod_i ?_ ?_); (first | decide | omega)) | ((with_reducible refine st_fdiv_i ?_ ?_); decide) 
    | with_reducible refine st_add_i ?_ | with_reducible refine st_sub_i ?_ | with_reducible refine st_neg_i ?_ | with_reducible refine st_eq_i ?_ | with_reducible refine st_ne_i ?_ | with_reducible refine st_eq_str ?_ | with_reducible refine st_ne_str ?_ | with_reducible refine st_eq_b ?_ | with_reducible refine st_ne_b ?_ | with_reducible refine st_lt_i ?_ | with_reducible refine st_le_i ?_ | with_reducible refine st_gt_i ?_ | with_reducible refine st_ge_i ?_
    | with_reducible refine st_is_n ?_ | with_reducible refine st_isNot_n ?_ | with_reducible refine st_is_b ?_ | with_reducible refine st_isNot_b ?_ | ((with_reducible refine st_ix_l (x := ?_) ?_ ?_); rotate_left; eq_refl) | ((with_reducible refine st_ix_t (x := ?_) ?_ ?_); rotate_left; eq_refl) | with_reducible refine st_len_l ?_ | with_reducible refine st_len_t ?_ | with_reducible refine st_len_lit ?_
    | with_reducible refine st_abs ?_ | with_reducible refine st_max2 ?_ | with_reducible refine st_min2 ?_ | with_reducible refine st_int_i ?_ | with_reducible refine st_int_b ?_ | with_reducible refine st_tuple_l ?_ | with_reducible refine st_tuple_t ?_ | with_reducible refine st_list_l ?_ | with_reducible refine st_list_t ?_ | ((with_reducible refine st_isT ?_ ?_); eq_refl) | ((with_reducible refine st_isTT ?_ ?_); eq_refl) | ((with_reducible refine st_isTF ?_ ?_); eq_refl) | ((with_reducible refine st_isNT ?_ ?_); eq_refl) | ((with_reducible refine st_isNF ?_ ?_); eq_refl)
    | with_reducible refine st_rg1 ?_ | with_reducible refine st_rg2 ?_ | with_reducible refine st_enumL ?_ | with_reducible refine st_zipS ?_ | with_reducible refine st_rev_l ?_ | with_reducible refine st_rev_t ?_
    | with_reducible refine st_ne_ll ?_ | with_reducible refine st_ne_lit ?_ | with_reducible refine st_in_pt ?_ | with_reducible refine st_in_pl ?_
    | with_reducible refine st_sl_l ?_ | with_reducible refine st_sl_t ?_
    | ((with_reducible refine st_iteLen ?_ ?_); eq_refl) | ((with_reducible refine st_iteNLen ?_ ?_); eq_refl) | with_reducible refine st_iteBB ?_ | ((with_reducible refine st_iteND ?_ ?_); omega) | ((with_reducible refine st_iteNF ?_ ?_); omega)
    | ((with_reducible refine st_iteT (decide_eq_true ?_) ?_); omega) | ((with_reducible refine st_iteF (decide_eq_false ?_) ?_); omega))
local macro_rules
  | `(tactic| sizeOf_list_dec) => `(tactic| with_reducible refine stepTo ?_)
local macro_rules
  | `(tactic| array_get_dec) => `(tactic| repeat sizeOf_list_dec)
local macro_rules
  | `(tactic| sizeOf_list_dec) => `(tactic| first | with_reducible refine st_ix2_l ?_ | with_reducible refine st_ix2_t ?_ | with_reducible refine st_ix2_s ?_ | with_reducible refine st_ix2_lit ?_ | with_reducible refine st_inK_l ?_ | with_reducible refine st_inK_t ?_ | with_reducible refine st_ninK_l ?_ | with_reducible refine st_ninK_t ?_ | with_reducible refine st_setD ?_ | with_reducible refine st_onDc ?_ | with_reducible refine st_dget2 ?_ | with_reducible refine st_emT ?_ | with_reducible refine st_emD ?_ | with_reducible refine st_disp1 ?_ | with_reducible refine st_disp1k ?_ | with_reducible refine st_range3 ?_ | with_reducible refine st_bor ?_ | with_reducible refine st_borT ?_ | with_reducible refine st_bindT_nil ?_ | with_reducible refine st_bindT_d ?_ | with_reducible refine st_bindT_o ?_ | with_reducible refine st_bindT_t ?_ | with_reducible refine st_toPs_nil ?_ | with_reducible refine st_toPs_d ?_ | with_reducible refine st_toPs_l ?_ | with_reducible refine st_toPs_dc ?_ | with_reducible refine st_tupO ?_ | with_reducible refine st_var_tp ?_ | with_reducible refine st_frz_own_tp ?_ | with_reducible refine st_frz_top_tp ?_ | with_reducible refine st_lmP ?_ | ((with_reducible refine st_onP ?_ ?_); eq_refl) | with_reducible refine st_flat_b ?_ | with_reducible refine st_flat_i ?_)
local macro_rules
  | `(tactic| sizeOf_list_dec) => `(tactic| with_reducible refine is_whole_ok fun _ => ?_)
local macro_rules
  | `(tactic| sizeOf_list_dec) => `(tactic| first | with_reducible refine st_in_il ?_ | with_reducible refine st_in_it ?_ | with_reducible refine st_notIn_il ?_ | with_reducible refine st_notIn_it ?_ | with_reducible refine st_ne_ll ?_)
local macro_rules
  | `(tactic| sizeOf_list_dec) => `(tactic| first | with_reducible refine st_lcK ?_ | with_reducible refine st_rowOf ?_)
theorem st_sort_pt {ps : List (Int × Int)} (hne : ps ≠ []) {k : R → Prop} (h : ∀ qs : List (Int × Int), qs.Perm ps → qs.Pairwise (fun p q => ltPr q p = false) → k (.own (.l (qs.map pairD)))) : bSorted [.tuple (ps.map pairD)] k := by
  have e : intsOf (ps.map pairD) = none := by
    cases ps with
    | nil => exact (hne rfl).elim
    | cons p r => rfl
  show (match intsOf (ps.map pairD) with
    | some ns => ∀ ms : List Int, ms.Perm ns → ms.Pairwise (· ≤ ·) → k (.own (.l (ms.map .int)))
    | none => bSortPT [.tuple (ps.map pairD)] k)
  rw [e]
  show (match pairsOf (ps.map pairD) with
    | some ps => ∀ qs : List (Int × Int), qs.Perm ps → qs.Pairwise (fun p q => ltPr q p = false) → k (.own (.l (qs.map pairD)))
    | none => False)
  rw [pairsOf_map']
  exact h
theorem right_ok {n : Int} {ts : List (Int × Int)} (g : Good n ts) {X : XF} {Q : R → S → Prop} (h : ∀ fin, Q (.d (.bool true)) fin) : m__law_e_right [.d (webD n ts)] X Q := by
  have n0 := g.n0
  have n10 := g.n10
  unfold m__law_e_right b__law_e_right
  refine st_sem rfl ?_
  refine st_join (fun s => s = [.d (webD n ts), .no, .no, .no, .no, .no, .no]) ?_ (fun k hk => ?_)
  · rintro s rfl
    array_get_dec
    refine law_alike_ok g fun fin => ?_
    array_get_dec
    refine ⟨by decide, ?_⟩
    array_get_dec
    refine loop_range1 (hi := 2) (fun _ s => s = [.d (webD n ts), .d (.bool (dec (ALk n.toNat ts))), .no, .no, .no, .no, .no]) ?_ ?_ rfl
    · rintro s rfl
      array_get_dec
      exact h _
    · rintro i s k h1 h2 rfl hk
      array_get_dec
      refine is_alike_ok g fun fin => ?_
      array_get_dec
      refine alike_value_ok g (fun hA fin => ?_) (fun hA a fin al => ?_)
      · rw [dec_f hA] at hk ⊢
        array_get_dec
        exact hk _ rfl
      · rw [dec_t hA] at hk ⊢
        have ale := al.le
        array_get_dec
        refine ⟨⟨by omega, by omega, by omega, by omega, by omega⟩, ?_⟩
        rw [rangeD_map]
        array_get_dec
        refine apart_sets_ok range_nd (by rw [rangeI_len]; omega) fun fin => ?_
        have al2 := aps_len (ts := ts) (rangeI n.toNat) [[]]
        have h2' : 2 ^ (rangeI n.toNat).length ≤ 2 ^ 10 := Nat.pow_le_pow_right (by decide) (by rw [rangeI_len]; omega)
        have al3 : (aps ts (rangeI n.toNat)).length ≤ 1024 := by
          unfold aps
          simp at al2
          omega
        array_get_dec
        refine ⟨by rw [List.length_map]; show _ ≤ 16777216; omega, ?_⟩
        array_get_dec
        refine comp_list tupI (fun s => .int (s.length : Nat)) _ (fun s hs2 kT hkT => ?_) ?_
        · rw [show tupI s = PyData.tuple (s.map .int) from rfl]
          array_get_dec
          rw [List.length_map]
          exact hkT
        · array_get_dec
          rw [show (aps ts (rangeI n.toNat)).map (fun s => PyData.int (s.length : Nat)) = ((aps ts (rangeI n.toNat)).map fun s => ((s.length : Nat) : Int)).map PyData.int by rw [List.map_map]; rfl]
          show (match intsOf (((aps ts (rangeI n.toNat)).map fun s => ((s.length : Nat) : Int)).map PyData.int) with
            | some ns => 0 < ns.length ∧ ∀ m, m ∈ ns → (∀ y, y ∈ ns → y ≤ m) → _
            | none => False)
          rw [intsOf_map']
          refine ⟨?_, fun m hm hy => ?_⟩
          · rw [List.length_map]
            exact List.length_pos_iff.mpr fun e => by
              have := (aps_iff (ts := ts) (range_nd (n := n.toNat)) (T := [])).mpr ⟨List.nil_sublist _, .nil⟩
              rw [e] at this
              cases this
          · obtain ⟨b, hb, rfl⟩ := List.mem_map.mp hm
            obtain ⟨b1, b2⟩ := (aps_iff range_nd).mp hb
            have al4 : Alpha n ts b.length := ⟨⟨b, b1, b2, rfl⟩, fun T hT hA2 => by
              have := hy _ (List.mem_map.mpr ⟨T, (aps_iff range_nd).mpr ⟨hT, hA2⟩, rfl⟩)
              omega⟩
            have e := al.one al4
            subst e
            array_get_dec
            refine part_ok n0 (by omega) (Nat.lt_of_lt_of_le (show _ < 100 by omega) (by decide)) fun fin => ?_
            array_get_dec
            refine st_ne_pp ?_
            array_get_dec
            rw [decide_eq_true (rfl : low n (max 1 (b.length : Int)) = low n (max 1 (b.length : Int)))]
            array_get_dec
            exact hk _ rfl
  · array_get_dec
    refine st_ite (fun q => ?_) (fun q => ?_)
    · array_get_dec
      refine st_mul_i (okM_of 4 5 (by omega) (by omega)) ?_
      array_get_dec
      refine st_in_il (ks := [0, n * (n - 1) / 2]) ?_
      array_get_dec
      refine st_ite (fun q2 => ?_) (fun q2 => ?_)
      · array_get_dec
        exact h _
      · array_get_dec
        exact hk _ rfl
    · array_get_dec
      exact hk _ rfl
theorem bent_ok {ns : List Int} {F : Nat} {xs : List D} {n : Int} {ts : List (Int × Int)} (g : Good n ts) (h3 : 2 ≤ n) (hc : Cup ns (F + 2) xs) {X : XF} {Q : R → S → Prop} (h : ∀ us xs', Cup ns F xs' → Good n us → Q (.d (webD n us)) [.l xs', .d (webD n ts)]) :
    m__law_e_bent [.l xs, .d (webD n ts)] X Q := by
  have n10 := g.n10
  have tf := good_few g
  unfold m__law_e_bent b__law_e_bent
  refine st_sem rfl ?_
  rw [show webD n ts = PyData.tuple [.int n, .tuple (ts.map pairD)] from rfl] at *
  array_get_dec
  refine dip_ok (F := F + 1) hc (by omega) (Nat.lt_of_le_of_lt (show _ ≤ 10 by omega) (by decide)) fun i xs1 hc1 i0 i1 => ?_
  array_get_dec
  refine dip_ok (F := F) hc1 (by omega) (Nat.lt_of_le_of_lt (show _ ≤ 10 by omega) (by decide)) fun r xs2 hc2 r0 r1 => ?_
  array_get_dec
  have j0 : 0 ≤ (i + 1 + r) % n := Int.emod_nonneg _ (by omega)
  have j1 : (i + 1 + r) % n < n := Int.emod_lt_of_pos _ (by omega)
  have ne : i ≠ (i + 1 + r) % n := fun e => by
    by_cases c : i + 1 + r < n
    · rw [Int.emod_eq_of_lt (by omega) c] at e
      omega
    · have : (i + 1 + r) % n = i + 1 + r - n := by
        rw [← Int.sub_emod_right, Int.emod_eq_of_lt (by omega) (by omega)]
      omega
  generalize (i + 1 + r) % n = j at j0 j1 ne
  refine st_ite (fun q => ?_) (fun q => ?_)
  · array_get_dec
    refine ⟨by rw [List.length_map]; show _ ≤ 16777216; omega, ?_⟩
    array_get_dec
    refine comp_filter pairD pairD (fun p => decide (p ≠ (min i j, max i j))) _ (fun p hp kT kF hT hF => ?_) ?_
    · refine st_nm ?_
      array_get_dec
      refine st_ne_pp (q := (min i j, max i j)) ?_
      array_get_dec
      refine st_ite (fun q => ?_) (fun q => ?_)
      · array_get_dec
        refine hT ?_
        rw [Bool.not_eq_true'] at q
        exact decide_eq_true (of_decide_eq_false q)
      · array_get_dec
        refine hF ?_
        rw [Bool.not_eq_false'] at q
        exact decide_eq_false fun h => h (of_decide_eq_true q)
    array_get_dec
    exact h (ts.filter fun p => decide (p ≠ (min i j, max i j))) xs2 hc2 ⟨g.n0, g.n10, fun p hp => g.ties p (List.mem_filter.mp hp).1, g.up.filter _, Nat.le_trans (List.length_filter_le _ _) g.few⟩
  · have q : ¬ (min i j, max i j) ∈ ts := by simpa using q
    array_get_dec
    refine st_add_t (by rw [List.length_map]; show _ + 1 ≤ 16777216; omega) ?_
    array_get_dec
    rw [show (ts.map pairD ++ [PyData.tuple [.int (min i j), .int (max i j)]]) = (ts ++ [(min i j, max i j)]).map pairD by rw [List.map_append]; rfl]
    refine st_sort_pt (by simp) fun qs hq hqs => ?_
    array_get_dec
    have nd : (ts ++ [(min i j, max i j)]).Nodup := List.nodup_append.mpr ⟨Up.nodup g.up, by simp, fun a ha b hb e => q (by rw [← List.mem_singleton.mp hb, ← e]; exact ha)⟩
    have lq := hq.length_eq
    rw [List.length_append] at lq
    have lq : qs.length = ts.length + 1 := lq
    refine h qs xs2 hc2 ⟨g.n0, g.n10, fun p hp => ?_, strict_of hq nd hqs, by omega⟩
    rcases List.mem_append.mp (hq.mem_iff.mp hp) with hp | hp
    · exact g.ties p hp
    · rw [List.mem_singleton.mp hp]
      dsimp only
      omega
theorem side_ok {n m : Int} {ts us : List (Int × Int)} (n0 : 0 ≤ n) (m0 : 0 ≤ m) (h10 : n + m ≤ 10) (ht : Prs n ts) (hu : Prs m us) (lt : ts.length ≤ 200) (lu : us.length ≤ 200) {X : XF} {Q : R → S → Prop} (h : ∀ vs fin, Prs (n + m) vs → vs.length ≤ 400 → Q (.d (webD (n + m) vs)) fin) :
    m__law_e_side_by_side [.d (webD n ts), .d (webD m us)] X Q := by
  unfold m__law_e_side_by_side b__law_e_side_by_side
  refine st_sem rfl ?_
  rw [show webD n ts = PyData.tuple [.int n, .tuple (ts.map pairD)] from rfl, show webD m us = PyData.tuple [.int m, .tuple (us.map pairD)] from rfl]
  array_get_dec
  refine ⟨by rw [List.length_map]; show _ ≤ 16777216; omega, ?_⟩
  array_get_dec
  refine comp_list pairD (fun p => pairD (p.1 + n, p.2 + n)) _ (fun p hp kT hkT => ?_) ?_
  · rw [show pairD p = PyData.tuple [.int p.1, .int p.2] from rfl]
    array_get_dec
    exact hkT
  array_get_dec
  refine st_add_l (by rw [List.length_map, List.length_map]; show _ + _ ≤ 16777216; omega) ?_
  array_get_dec
  have e : ts.map pairD ++ us.map (fun p => pairD (p.1 + n, p.2 + n)) = (ts ++ us.map fun p => (p.1 + n, p.2 + n)).map pairD := by
    rw [List.map_append, List.map_map]; rfl
  rw [e]
  refine h (ts ++ us.map fun p => (p.1 + n, p.2 + n)) _ ⟨fun p hp => ?_, List.nodup_append.mpr ⟨ht.nd, List.Pairwise.map _ (fun a b (hab : a ≠ b) e => hab (by
    injection e with e1 e2
    exact Prod.ext (by omega) (by omega))) hu.nd, fun a ha b hb e => ?_⟩⟩ (by rw [List.length_append, List.length_map]; omega)
  · rcases List.mem_append.mp hp with hp | hp
    · have := ht.lt p hp
      omega
    · obtain ⟨q, hq, rfl⟩ := List.mem_map.mp hp
      have := hu.lt q hq
      dsimp only
      omega
  · obtain ⟨q, hq, rfl⟩ := List.mem_map.mp hb
    have h1 := ht.lt a ha
    have h2 := hu.lt q hq
    rw [e] at h1
    dsimp only at h1
    omega
theorem ring_of_ok {n : Int} (h3 : 3 ≤ n) (h10 : n ≤ 10) {X : XF} {Q : R → S → Prop} (h : ∀ us fin, Prs n us → us.length ≤ 10 → Q (.d (webD n us)) fin) : m__law_e_ring_of [.d (.int n)] X Q := by
  unfold m__law_e_ring_of b__law_e_ring_of
  refine st_sem rfl ?_
  array_get_dec
  refine ⟨by unfold lim62; omega, ?_⟩
  array_get_dec
  refine ⟨by rw [rangeD_len]; show _ ≤ 16777216; omega, ?_⟩
  array_get_dec
  rw [rangeD_map]
  refine comp_list PyData.int (fun z => pairD (z, z + 1)) _ (fun z hz kT hkT => ?_) ?_
  · array_get_dec
    exact hkT
  array_get_dec
  refine st_add_l (by rw [List.length_map, rangeI_len]; show 1 + _ ≤ 16777216; omega) ?_
  array_get_dec
  refine st_sort_p (ps := (0, n - 1) :: (rangeI (n - 1).toNat).map fun z => (z, z + 1)) (by rw [List.map_cons, List.map_map]; rfl) fun qs hq hqs => ?_
  array_get_dec
  refine h qs _ ⟨fun p hp => ?_, hq.nodup_iff.mpr (List.nodup_cons.mpr ⟨fun q => ?_, List.Pairwise.map _ (fun a b (hab : a ≠ b) e => hab (by injection e)) rangeI_nd⟩)⟩ (by rw [hq.length_eq, List.length_cons, List.length_map, rangeI_len]; omega)
  · rcases List.mem_cons.mp (hq.mem_iff.mp hp) with rfl | hp
    · dsimp only; omega
    · obtain ⟨z, hz, rfl⟩ := List.mem_map.mp hp
      have := rangeI_mem.mp hz
      dsimp only
      omega
  · obtain ⟨z, hz, e⟩ := List.mem_map.mp q
    injection e with e1 e2
    omega
theorem two_rings_ok {ns : List Int} {F : Nat} {xs : List D} (hc : Cup ns (F + 2) xs) {X : XF} {Q : R → S → Prop} (h : ∀ m us xs', Cup ns F xs' → 0 ≤ m → m ≤ 10 → Prs m us → us.length ≤ 400 → Q (.d (webD m us)) [.l xs']) : m__law_e_two_rings [.l xs] X Q := by
  unfold m__law_e_two_rings b__law_e_two_rings
  refine st_sem rfl ?_
  array_get_dec
  refine dip_ok (F := F + 1) hc (by decide) (by decide) fun r xs1 hc1 r0 r1 => ?_
  array_get_dec
  refine ring_of_ok (n := 3 + r) (by omega) (by omega) fun us fin hu lu => ?_
  array_get_dec
  refine st_mul_i (okM_of 4 5 (by omega) (by omega)) ?_
  array_get_dec
  refine dip_ok (F := F) hc1 (by omega) (Nat.lt_of_le_of_lt (show _ ≤ 10 by omega) (by decide)) fun s xs2 hc2 s0 s1 => ?_
  array_get_dec
  refine ring_of_ok (n := 3 + r + 1 + s) (by omega) (by omega) fun vs fin hv lv => ?_
  array_get_dec
  refine side_ok (by omega) (by omega) (by omega) hu hv (by omega) (by omega) fun ws fin hw lw => ?_
  array_get_dec
  exact h _ _ _ hc2 (by omega) (by omega) hw lw
theorem flat_intsK : ∀ l : List Int, flatD.flatL (l.map PyData.int) = true
  | [] => rfl
  | z :: l => by
    show (flatD (.int z) && flatD.flatL (l.map PyData.int)) = true
    rw [flat_intsK l]
    rfl
theorem atI_last {α : Type} (l : List α) (x : α) : L2.atI (l ++ [x]) (-1) = some x := by
  have e : L2.ixN (l ++ [x]).length (-1) = some l.length := by
    unfold L2.ixN
    rw [List.length_append, if_neg (by decide), if_pos (by simp; omega)]
    congr 1
    simp
    omega
  unfold L2.atI
  rw [e]
  simp
theorem tied_across_ok {ns : List Int} {F : Nat} {xs : List D} {n : Int} (h3 : 3 ≤ n) (h10 : n ≤ 10) (hc : Cup ns (F + 10) xs) {X : XF} {Q : R → S → Prop} (h : ∀ us xs', Cup ns F xs' → Prs n us → us.length ≤ 400 → Q (.d (webD n us)) [.l xs', .d (.int n)]) :
    m__law_e_tied_across [.l xs, .d (.int n)] X Q := by
  unfold m__law_e_tied_across b__law_e_tied_across
  refine st_sem rfl ?_
  refine st_join (fun s => ∃ ts, Prs n ts ∧ ts.length ≤ 10 ∧ s = [.l xs, .d (.int n), .d (webD n ts), .no, .no, .no, .no, .no]) ?_ (fun k hk => by
    array_get_dec
    refine ring_of_ok h3 h10 fun us fin hu lu => ?_
    array_get_dec
    exact hk _ ⟨us, hu, lu, rfl⟩)
  rintro s ⟨ts, ht, tl, rfl⟩
  refine st_join (fun s => s = [.l xs, .d (.int n), .d (webD n ts), .l ((rangeI n.toNat).map .int), .no, .no, .no, .no]) ?_ (fun k hk => by
    array_get_dec
    refine ⟨⟨by omega, by omega, by omega, by omega, by omega⟩, ?_⟩
    rw [rangeD_map]
    array_get_dec
    exact hk _ rfl)
  rintro s rfl
  array_get_dec
  refine loop_while (fun m s => ∃ (xs : List D) (left : List Int) (more : List (Int × Int)), s = [.l xs, .d (.int n), .d (webD n ts), .l (left.map .int), .l (more.map pairD), .no, .no, .no] ∧ left.length = m ∧ Cup ns (F + m) xs ∧ left.Pairwise (· < ·) ∧ (∀ z ∈ left, 0 ≤ z ∧ z < n) ∧ Prs n (ts ++ more) ∧ (∀ p ∈ more, ∀ z ∈ left, p.1 ≠ z) ∧ more.length + left.length ≤ 10) ?_ n.toNat ⟨xs, rangeI n.toNat, [], rfl, rangeI_len, hc.less (by omega), rangeI_up, fun z hz => by have := rangeI_mem.mp hz; omega, by rw [List.append_nil]; exact ht, fun p hp => (nomatch hp), by rw [rangeI_len]; simp; omega⟩
  rintro m s k ⟨xs, left, more, rfl, hm, hc, up, lt, hp, hne, hl⟩ hk
  array_get_dec
  refine st_ite (fun q => ?_) (fun q => ?_)
  · have q := of_decide_eq_true q
    rw [List.length_map] at q
    have q : 1 < left.length := by omega
    obtain ⟨i, left, rfl⟩ : ∃ i l, left = i :: l := by
      cases left with
      | nil => simp at q
      | cons i l => exact ⟨i, l, rfl⟩
    rw [List.length_cons] at q hm hl
    obtain ⟨up1, up2⟩ := List.pairwise_cons.mp up
    have iv := lt i List.mem_cons_self
    have nd : left.Nodup := up2.imp fun h e => by omega
    array_get_dec
    refine st_pop (ls := i :: left) (by decide) (by rw [List.length_cons]; omega) (by decide) ?_
    rw [show atZ (i :: left) 0 = i from rfl, show (i :: left).eraseIdx (0 : Int).toNat = left from rfl]
    array_get_dec
    refine ⟨by rw [List.length_map]; show _ ≤ 16777216; omega, ?_⟩
    array_get_dec
    refine comp_filter PyData.int PyData.int (fun j => !Tb ts i j) _ (fun z hz kT kF hT hF => ?_) ?_
    · refine st_nm ?_
      array_get_dec
      refine e_tied_ok fun fin => ?_
      cases e : Tb ts i z with
      | true =>
        array_get_dec
        exact hF (by rw [e]; rfl)
      | false =>
        array_get_dec
        exact hT (by rw [e]; rfl)
    array_get_dec
    have fl : (left.filter fun j => !Tb ts i j).length ≤ left.length := List.length_filter_le _ _
    refine ⟨flat_intsK _, ?_⟩
    array_get_dec
    refine st_ne_ll (ms := []) ?_
    array_get_dec
    refine st_ite (fun q2 => ?_) (fun q2 => ?_)
    · have q2 : (left.filter fun j => !Tb ts i j) ≠ [] := by simpa using q2
      have q3 := List.length_pos_iff.mpr q2
      array_get_dec
      rw [List.length_map]
      refine dip_ok (F := F + left.length) (hc.less (by omega)) (by omega) (Nat.lt_of_le_of_lt (show _ ≤ 10 by omega) (by decide)) fun r xs2 hc2 r0 r1 => ?_
      array_get_dec
      refine st_ix_l (atZ_ok (ks := left.filter fun j => !Tb ts i j) r0 (by omega)) ?_
      have hz := List.mem_filter.mp (atZ_mem (ls := left.filter fun j => !Tb ts i j) r0 (by omega))
      generalize atZ (left.filter fun j => !Tb ts i j) r = z at hz ⊢
      obtain ⟨zl, zt⟩ := hz
      have zv := lt z (List.mem_cons_of_mem _ zl)
      have iz := up1 z zl
      array_get_dec
      refine st_append (by rw [List.length_map]; show _ < 16777216; omega) ?_
      array_get_dec
      refine st_ix_l (x := pairD (i, z)) (atI_last _ _) ?_
      rw [show pairD (i, z) = PyData.tuple [.int i, .int z] from rfl]
      array_get_dec
      refine st_remove zl ?_
      array_get_dec
      have zi : left.idxOf z < left.length := List.idxOf_lt_length_of_mem zl
      have el : (left.eraseIdx (left.idxOf z)).length = left.length - 1 := List.length_eraseIdx_of_lt zi
      have sub : (left.eraseIdx (left.idxOf z)).Sublist left := List.eraseIdx_sublist _ _
      refine hk (m - 2) _ (by omega) ⟨xs2, left.eraseIdx (left.idxOf z), more ++ [(i, z)], by rw [List.map_append]; rfl, by omega, hc2.less (by omega), up2.sublist sub, fun w hw => lt w (List.mem_cons_of_mem _ (sub.subset hw)), ?_, fun p hp w hw => ?_, by rw [List.length_append, el]; show _ + 1 + _ ≤ 10; omega⟩
      · rw [← List.append_assoc]
        refine ⟨fun p hp9 => ?_, List.nodup_append.mpr ⟨hp.nd, by simp, fun a ha b hb e => ?_⟩⟩
        · rcases List.mem_append.mp hp9 with hp2 | hp2
          · exact hp.lt p hp2
          · rw [List.mem_singleton.mp hp2]
            exact ⟨iv.1, iz, zv.2⟩
        · rw [List.mem_singleton.mp hb] at e
          rcases List.mem_append.mp ha with ha | ha
          · have : Tb ts i z = true := (tb_iff iz).mpr (e ▸ ha)
            rw [this] at zt
            cases zt
          · exact hne a ha i List.mem_cons_self (by rw [e])
      · rcases List.mem_append.mp hp with hp | hp
        · exact hne p hp w (List.mem_cons_of_mem _ (sub.subset hw))
        · rw [List.mem_singleton.mp hp]
          exact Int.ne_of_lt (up1 w (sub.subset hw))
    · array_get_dec
      exact hk (m - 1) _ (by omega) ⟨xs, left, more, rfl, by omega, hc.less (by omega), up2, fun w hw => lt w (List.mem_cons_of_mem _ hw), hp, fun p hp w hw => hne p hp w (List.mem_cons_of_mem _ hw), by omega⟩
  · array_get_dec
    refine st_add_l (by rw [List.length_map, List.length_map]; show _ + _ ≤ 16777216; omega) ?_
    array_get_dec
    rw [← List.map_append]
    refine st_sort_p (ps := ts ++ more) rfl fun qs hq hqs => ?_
    array_get_dec
    have lq := hq.length_eq
    rw [List.length_append] at lq
    exact h qs xs (hc.less (by omega)) ⟨fun p h2 => hp.lt p (hq.mem_iff.mp h2), hq.nodup_iff.mpr hp.nd⟩ (by omega)
def Gw (d : D) : Prop := ∃ n ts, d = webD n ts ∧ Good n ts
def Pw (d : D) : Prop := ∃ n ts, d = webD n ts ∧ 0 ≤ n ∧ n ≤ 10 ∧ Prs n ts ∧ ts.length ≤ 400
theorem good_prs {n : Int} {ts : List (Int × Int)} (g : Good n ts) : Prs n ts := ⟨g.ties, Up.nodup g.up⟩
theorem law_holds : ∀ ns : List Int, ns.length ≤ 63 → (∀ z ∈ ns, Builtin.Int.intBits z ≤ 1048576) → m_law [.d (litD ns)] (fun _ _ => False) (fun r _ => r = .d (.bool true)) := by
  intro ns hns _
  unfold m_law b_law
  refine st_sem rfl ?_
  refine st_join (fun s => s = [.d (litD ns), .l [litD ns, .int 0, .int 0], .no, .no, .no, .no, .no, .no, .no]) ?_ (fun k hk => by array_get_dec; exact hk _ rfl)
  rintro s rfl
  refine st_join (fun s => ∃ xs, s = [.d (litD ns), .l xs, .no, .no, .no, .no, .no, .no, .no]) ?_ (fun k hk => ?_)
  · rintro s ⟨xs, rfl⟩
    array_get_dec
    rfl
  · array_get_dec
    refine ⟨by decide, ?_⟩
    array_get_dec
    refine loop_range1 (hi := 4) (fun i s => ∃ xs : List D, s = [.d (litD ns), .l xs, .no, .no, .no, .no, .no, .no, .no] ∧ Cup ns (1000 * (4 - i).toNat) xs) (fun s ⟨xs, e, _⟩ => hk s ⟨xs, e⟩) ?_ ⟨_, rfl, 0, 0, rfl, by decide, by decide⟩
    rintro i s k2 hi hin ⟨xs, rfl, hc⟩ hk2
    refine st_nm ?_
    refine st_join (fun s => ∃ xs : List D, s = [.d (litD ns), .l xs, .d (.int i), .no, .no, .no, .no, .no, .no] ∧ Cup ns (1000 * (4 - (i + 1)).toNat + 1000) xs) ?_ (fun k3 hk3 => ?_)
    rotate_left
    · array_get_dec
      refine st_ite (fun q => ?_) (fun q => ?_)
      · have hc' := hc
        obtain ⟨a, v, rfl, ha, hb⟩ := hc
        array_get_dec
        refine st_ite (fun q2 => ?_) (fun q2 => ?_)
        · array_get_dec
          exact hk _ ⟨_, rfl⟩
        · array_get_dec
          exact hk3 _ ⟨_, rfl, hc'.less (by omega)⟩
      · array_get_dec
        exact hk3 _ ⟨_, rfl, hc.less (by omega)⟩
    clear hc xs
    rintro s ⟨xs, rfl, hc⟩
    generalize hB : 1000 * (4 - (i + 1)).toNat = B at hc
    refine st_join (fun s => ∃ n ts xs, 3 ≤ n ∧ Good n ts ∧ Cup ns (B + 900) xs ∧ s = [.d (litD ns), .l xs, .d (.int i), .d (webD n ts), .no, .no, .no, .no, .no]) ?_ (fun k hk => by
      array_get_dec
      refine dip_ok (F := B + 950) (hc.less (by omega)) (by decide) (by decide) fun r xs1 hc1 r0 r1 => ?_
      array_get_dec
      refine round_ok (F := B + 900) (hc1.less (by omega)) (by omega) (by omega) fun ts xs2 hc2 g => ?_
      array_get_dec
      exact hk _ ⟨_, ts, xs2, by omega, g, hc2, rfl⟩)
    clear hc xs
    rintro s ⟨n, ts, xs, h3, g, hc, rfl⟩
    refine st_join (fun s => ∃ xs, Cup ns (B + 700) xs ∧ s = [.d (litD ns), .l xs, .d (.int i), .d (webD n ts), .no, .no, .no, .no, .no]) ?_ (fun k hk => ?_)
    rotate_left
    · array_get_dec
      refine e_web_ok (F := B + 750) (hc.less (by omega)) (by decide) (by decide) fun m us xs1 hc1 g1 hm => ?_
      array_get_dec
      refine bent_ok (F := B + 700) g (by omega) (hc1.less (by omega)) fun vs xs2 hc2 g2 => ?_
      array_get_dec
      refine loop_for (fun rest s => (∀ d ∈ rest, Gw d) ∧ s = [.d (litD ns), .l xs2, .d (.int i), .d (webD n ts), .no, .no, .no, .no, .no]) ?_ ?_ _ _ ⟨fun d hd => ?_, rfl⟩
      · rintro s ⟨_, rfl⟩
        exact hk _ ⟨_, hc2, rfl⟩
      · rintro d rest s k4 ⟨hd, rfl⟩ hk4
        obtain ⟨m, us, rfl, g3⟩ := hd d List.mem_cons_self
        refine st_nm ?_
        array_get_dec
        refine right_ok g3 fun fin => ?_
        array_get_dec
        exact hk4 _ ⟨fun e he => hd e (List.mem_cons_of_mem _ he), rfl⟩
      · simp only [List.mem_cons, List.not_mem_nil, or_false] at hd
        rcases hd with rfl | rfl | rfl
        · exact ⟨_, _, rfl, g1⟩
        · exact ⟨_, _, rfl, g⟩
        · exact ⟨_, _, rfl, g2⟩
    clear hc xs
    rintro s ⟨xs, hc, rfl⟩
    generalize webD n ts = Wd
    refine st_join (fun s => ∃ xs, Cup ns (B + 500) xs ∧ s = [.d (litD ns), .l xs, .d (.int i), .d Wd, .no, .no, .no, .no, .no]) ?_ (fun k hk => ?_)
    rotate_left
    · array_get_dec
      refine two_rings_ok (F := B + 650) (hc.less (by omega)) fun m us xs1 hc1 m0 m10 hu lu => ?_
      array_get_dec
      refine dip_ok (F := B + 640) (hc1.less (by omega)) (by decide) (by decide) fun r xs2 hc2 r0 r1 => ?_
      array_get_dec
      refine st_mul_i (okM_of 4 5 (by omega) (by omega)) ?_
      array_get_dec
      refine tied_across_ok (n := 6 + 2 * r) (F := B + 600) (by omega) (by omega) (hc2.less (by omega)) fun vs xs3 hc3 hv lv => ?_
      array_get_dec
      refine loop_for (fun rest s => (∀ d ∈ rest, Pw d) ∧ ∃ xs, Cup ns (B + 500 + 20 * rest.length) xs ∧ s = [.d (litD ns), .l xs, .d (.int i), .d Wd, .no, .no, .no, .no, .no]) ?_ ?_ _ _ ⟨fun d hd => ?_, xs3, hc3.less (by show _ + 20 * 2 ≤ _; omega), rfl⟩
      · rintro s ⟨_, xs, hc, rfl⟩
        exact hk _ ⟨_, hc.less (by omega), rfl⟩
      · rintro d rest s k4 ⟨hd, xs, hc, rfl⟩ hk4
        rw [List.length_cons] at hc
        obtain ⟨m, us, rfl, m0, m10, hu, lu⟩ := hd d List.mem_cons_self
        refine st_nm ?_
        array_get_dec
        refine order_ok (n := m) (F := B + 500 + 20 * rest.length) (hc.less (by omega)) m0 m10 fun ls xs2 hc2 hb hl => ?_
        array_get_dec
        refine moved_ok m0 m10 hb hl hu (by omega) fun qs fin g3 => ?_
        array_get_dec
        refine right_ok g3 fun fin => ?_
        array_get_dec
        exact hk4 _ ⟨fun e he => hd e (List.mem_cons_of_mem _ he), xs2, hc2, rfl⟩
      · simp only [List.mem_cons, List.not_mem_nil, or_false] at hd
        rcases hd with rfl | rfl
        · exact ⟨_, _, rfl, m0, m10, hu, lu⟩
        · exact ⟨_, _, rfl, by omega, by omega, hv, lv⟩
    clear hc xs
    rintro s ⟨xs, hc, rfl⟩
    refine st_join (fun s => ∃ n xs, 2 ≤ n ∧ n ≤ 5 ∧ Cup ns (B + 450) xs ∧ s = [.d (litD ns), .l xs, .d (.int i), .d Wd, .no, .d (.int n), .no, .no, .no]) ?_ (fun k hk => by
      array_get_dec
      refine dip_ok (F := B + 450) (hc.less (by omega)) (by decide) (by decide) fun r xs1 hc1 r0 r1 => ?_
      array_get_dec
      exact hk _ ⟨_, xs1, by omega, by omega, hc1, rfl⟩)
    clear hc xs
    rintro s ⟨n2, xs, n0, n5, hc, rfl⟩
    array_get_dec
    refine round_ok (F := B + 400) (hc.less (by omega)) (by omega) (by omega) fun us xs1 hc1 g1 => ?_
    array_get_dec
    refine round_ok (F := B + 300) (hc1.less (by omega)) (by omega) (by omega) fun vs xs2 hc2 g2 => ?_
    array_get_dec
    refine loop_for (fun rest s => (∀ d ∈ rest, ∃ zs ws, d = .tuple [webD n2 zs, webD n2 ws] ∧ Good n2 zs ∧ Good n2 ws) ∧ ∃ xs, Cup ns (B + 20 * rest.length) xs ∧ s = [.d (litD ns), .l xs, .d (.int i), .d Wd, .d (webD n2 us), .d (.int n2), .d (webD n2 vs), .no, .no]) ?_ ?_ _ _ ⟨fun d hd => ?_, xs2, hc2.less (by show _ + 20 * 2 ≤ _; omega), rfl⟩
    · rintro s ⟨_, xs, hc, rfl⟩
      exact hk2 _ ⟨xs, rfl, hc.less (by rw [hB]; omega)⟩
    · rintro d rest s k4 ⟨hd, xs, hc, rfl⟩ hk4
      rw [List.length_cons] at hc
      obtain ⟨zs, ws, rfl, g3, g4⟩ := hd d List.mem_cons_self
      have l3 := good_few g3
      have l4 := good_few g4
      refine st_nm ?_
      array_get_dec
      refine side_ok (n := n2) (m := n2) (by omega) (by omega) (by omega) (good_prs g3) (good_prs g4) (by omega) (by omega) fun qs fin hq lq => ?_
      array_get_dec
      refine order_ok (n := n2 + n2) (F := B + 20 * rest.length) (hc.less (by omega)) (by omega) (by omega) fun ls xs3 hc3 hb hl => ?_
      array_get_dec
      refine moved_ok (by omega) (by omega) hb hl hq (by omega) fun qs2 fin g5 => ?_
      array_get_dec
      refine right_ok g5 fun fin => ?_
      array_get_dec
      exact hk4 _ ⟨fun e he => hd e (List.mem_cons_of_mem _ he), xs3, hc3, rfl⟩
    · simp only [List.mem_cons, List.not_mem_nil, or_false] at hd
      rcases hd with rfl | rfl
      · exact ⟨_, _, rfl, g1, g2⟩
      · exact ⟨_, _, rfl, g1, g1⟩
end Lk48
open PySem PySem.W PySem.Calls PyProof.Rows
set_option maxHeartbeats 0 in
theorem PySem.Challenge.cw_hueshare_k48_alike_everywhere_holds : PySem.Challenge.rw_hueshare_k48_alike_everywhere.Holds := by
  w_on; o_law
  refine HandSHeadRun.head_any (r := OpenLaw.row PySem.Challenge.rw_hueshare_k48_alike_everywhere) (q := view (OpenLaw.row PySem.Challenge.rw_hueshare_k48_alike_everywhere).prog [48]) (H := Lk48.hk) (ob := Lk48.ob) (M := 9000) (loose := Lk48.nm) (d := HandSHeadRun.topDef (OpenLaw.row PySem.Challenge.rw_hueshare_k48_alike_everywhere).prog 48) (kwd := []) Lk48.ob_eq
    (by kernel_rfl) (fun s => by kernel_rfl) Lk48.run (by kernel_rfl) (by kernel_rfl) (by kernel_rfl) (by rfl) (by first | assumption | decide +kernel) (by decide +kernel) ⟨rfl, rfl, rfl, rfl, rfl, by decide +kernel⟩ ?hw ?hc
  case hw => w_witness2
  case hc =>
    refine Hs.walk_ofBE (l := PySem.Challenge.rw_hueshare_k48_alike_everywhere) (n := 63) (k := 22) (ms := [false]) (sem := Lk48.m_law) rfl (by decide) (by kernel_rfl) ⟨rfl, by decide, by decide⟩ ?F Lk48.law_holds
    intro w mg fa h Y G hmg0
    obtain ⟨K, KX, c⟩ := Y
    have hmg : mg ("law" : PySem.Str) = some (.ref fa) := by
      have e : (HandSHeadRun.topDef (OpenLaw.row PySem.Challenge.rw_hueshare_k48_alike_everywhere).prog 48).name = ("law" : PySem.Str) := by kernel_rfl
      rw [← e]
      exact hmg0
    obtain ⟨fd, hb, hF⟩ := Lk48.facts (P := (PySem.Challenge.rw_hueshare_k48_alike_everywhere).prog) (w := w) KX G hmg c
    exact ⟨K, fd, KX, hb, hF⟩
