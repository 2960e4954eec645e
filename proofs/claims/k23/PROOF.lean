import PyProof.Rows.All
import Wide.All
import OpenK.AllK
import Wide.FinOn
import HandS.ForMost
import HandS.ForExc
import HandS.CallSlots
import HandS.Deep
import HandS.TupAny
import HandS.TupMul
import HandS.TupLe
import HandS.Wide
import HandS.SortInts
import HandS.SortRule
import HandS.Conv
import HandS.IsInst
import HandS.Style
import HandS.SortOrd
import HandS.More
import HandS.HeadHook2
import HandS.EndBits
import HandS.HeadEnd
import HandS.HeadHook1
import HandS.Head0
import HandS.Head1
import HandS.Head2
import HandS.ExcOwn
import HandS.Iter
import HandS.Zip
import HandS.Rev
import KE.GoesEnum
import PyProof.Rows.SortShellAny
import PyProof.ReprRoads
import HandS.ExcIs
import HandS.ExcValue
import HandS.TupLen
import HandS.WordsDict
import HandS.DictTup
import KE.KDictCopyH
import KE.KDictPairs
import KE.KEqDict
import PySem.Challenge.RW_hueshare_k23_hues_and_floors_looked_at
set_option Elab.async false
set_option linter.all false
set_option maxRecDepth 100000
set_option maxHeartbeats 4000000
set_option exponentiation.threshold 100000
namespace Hs
open PySem PySem.Spec PyProof.Rows L2
/-- how a def is looked at by names -/
abbrev dOf (x : Str) (st : Stmt) : He.DefD := ⟨(x, none), x, x, defArgs st, defBody st, defScope st, [], []⟩
def excB (K : PySem.W.Frag) (D : Addr) : Bool :=
  decide (PySem.W.findIn K (.ref D) "__getattribute__" = some (some (.builtin "BaseException.__getattribute__"))) && (decide (PySem.W.findIn K (.ref D) "__getattr__" = some none) && (decide (PySem.W.subIn K (.ref D) (.type "BaseException") = some true) && (PySem.W.hasDictIn K D &&
    (decide (PySem.W.findIn K (.ref D) "__class__" = some (some (.builtin "object.__class__"))) && (decide (PySem.W.specialIn K (.builtin "object.__class__") "__get__" = some (some (.builtin "getset_descriptor.__get__"))) && (decide (PySem.W.takesIn K (.builtin "object.__class__") = some true) &&
      decide (PySem.W.mroIn K D (.type "object") = some true)))))))
/-- what isinstance says of the errors of the classes named, asked for an own class, for a built-in one -/
inductive ExQ where
  | own (y : Str) (tb : List (Str × Bool))
  | ty (T : String) (tb : List (Str × Bool))
def ExQ.row (K : PySem.W.Frag) (cv : Value) (tb : List (Str × Bool)) : Bool := tb.all fun p => excB K (He.ga K p.1) && decide (PySem.W.kitOne K (.ref (He.ga K p.1)) cv = some p.2)
def ExQ.ok (K : PySem.W.Frag) : ExQ → Bool
  | .own y tb => ExQ.row K (.ref (He.ga K y)) tb
  | .ty T tb => ExQ.row K (.type T) tb
end Hs
namespace Lk23
open PySem PySem.Spec PyProof.Rows L2 Hs
def topS (i : Nat) : Stmt := PySem.Challenge.pw_hueshare_k23_hues_and_floors_looked_at.main.body.getD i (.Pass ⟨0, 0, 0, 0⟩)
abbrev s__law_acell : Stmt := topS 24
abbrev s__law_atape : Stmt := topS 25
abbrev s__law_adigit : Stmt := topS 26
abbrev s__law_aweb : Stmt := topS 27
abbrev s_is_whole : Stmt := topS 5
abbrev s_is_below : Stmt := topS 6
abbrev s_is_rising : Stmt := topS 8
abbrev s_is_tie : Stmt := topS 7
abbrev s_are_ties : Stmt := topS 9
abbrev s_is_web : Stmt := topS 10
abbrev s_need_web : Stmt := topS 11
abbrev s_all_sets : Stmt := topS 14
abbrev s_without : Stmt := topS 15
abbrev s_tied_in : Stmt := topS 12
abbrev s_first_parts : Stmt := topS 16
abbrev s_floors_in : Stmt := topS 17
abbrev s_hues_by : Stmt := topS 18
abbrev s_fewest_in : Stmt := topS 19
abbrev s_fewest : Stmt := topS 20
abbrev s_are_hues : Stmt := topS 21
abbrev s__law_ahues_right : Stmt := topS 32
abbrev s__law_asets : Stmt := topS 29
abbrev s__law_ais_apart : Stmt := topS 28
abbrev s__law_aparts_of : Stmt := topS 30
abbrev s__law_aare_floors : Stmt := topS 31
abbrev s_are_floors : Stmt := topS 22
abbrev s__law_afloors_right : Stmt := topS 33
abbrev s_law : Stmt := topS 34
def fa0 : List He.Fa := [.glo "_law_acell", .glo "_law_atape", .glo "_law_adigit", .glo "_law_aweb", .glo "is_whole", .glo "is_below", .glo "is_rising", .glo "is_tie", .glo "are_ties", .glo "is_web", .glo "need_web", .glo "all_sets", .glo "without", .glo "tied_in", .glo "first_parts", .glo "floors_in", .glo "hues_by", .glo "fewest_in", .glo "fewest", .glo "are_hues", .glo "_law_ahues_right", .glo "_law_asets", .glo "_law_ais_apart", .glo "_law_aparts_of", .glo "_law_aare_floors", .glo "are_floors", .glo "_law_afloors_right", .glo "law", .glo "NoWeb", .exc "NoWeb"]
def fa1 : List He.Fa := [.int "MOST_PLACES" 10, .free "len", .free "range", .free "tuple", .free "isinstance", .free "int", .free "bool", .free "all", .free "max", .free "min", .free "any", .free "list", .free "sorted", .free "dict"]
def fa : List He.Fa := fa0 ++ fa1
def fn0 : List He.DefD := [dOf "_law_acell" s__law_acell, dOf "_law_atape" s__law_atape, dOf "_law_adigit" s__law_adigit, dOf "_law_aweb" s__law_aweb, dOf "is_whole" s_is_whole, dOf "is_below" s_is_below, dOf "is_rising" s_is_rising, dOf "is_tie" s_is_tie, dOf "are_ties" s_are_ties, dOf "is_web" s_is_web, dOf "need_web" s_need_web, dOf "all_sets" s_all_sets, dOf "without" s_without, dOf "tied_in" s_tied_in, dOf "first_parts" s_first_parts, dOf "floors_in" s_floors_in, dOf "hues_by" s_hues_by, dOf "fewest_in" s_fewest_in, dOf "fewest" s_fewest, dOf "are_hues" s_are_hues, dOf "_law_ahues_right" s__law_ahues_right, dOf "_law_asets" s__law_asets, dOf "_law_ais_apart" s__law_ais_apart, dOf "_law_aparts_of" s__law_aparts_of, dOf "_law_aare_floors" s__law_aare_floors, dOf "are_floors" s_are_floors, dOf "_law_afloors_right" s__law_afloors_right, dOf "law" s_law]
def fn : List He.DefD := fn0
def nm0 : List PySem.Str := ["HueError", "NoWeb", "is_whole", "is_below", "is_tie", "is_rising", "are_ties", "is_web", "need_web", "tied_in", "all_sets", "without", "first_parts", "floors_in", "hues_by", "fewest_in", "fewest", "are_hues", "are_floors", "_law_acell", "_law_atape", "_law_adigit", "_law_aweb", "_law_ais_apart", "_law_asets", "_law_aparts_of", "_law_aare_floors", "_law_ahues_right", "_law_afloors_right", "MOST_PLACES"]
def nm : List PySem.Str := nm0
abbrev Rw : PySem.W.OpenRow := PySem.W.OpenLaw.row PySem.Challenge.rw_hueshare_k23_hues_and_floors_looked_at
def nx (g : Addr → Option Obj) (L : List Addr) : List Addr := L.flatMap fun a => match g a with
  | some o => He.refsD o
  | none => []
def bfs (g : Addr → Option Obj) : Nat → List Addr → List Addr
  | 0, L => L
  | n + 1, L => L ++ bfs g n (nx g L)
def asE (g : Addr → Option Obj) : List Addr := bfs g 4 [mainGlobals]
def hk : PySem.W.Hook where
  α := He.AlD
  obs := fun s => He.obsD fa fn (He.frG s.heap.get? (asE s.heap.get?))
  val := fun _ => He.valD fn
  says := fun _ h => ∃ K : PySem.W.Frag, K.In h ∧ He.SaysD fa fn K
  of := fun _ _ e => ⟨_, He.frG_in, e⟩
  keeps := fun _ _ _ ⟨K, hK, c⟩ k => ⟨K, PySem.W.Frag.In.keeps hK k, c⟩
def ob (s : PySem.W.SharedT) : He.AlD := He.obsD fa fn (He.frG (HandSHeadRun.getT s) (asE (HandSHeadRun.getT s)))
theorem ob_eq (s : PySem.W.SharedT) : ob s = hk.obs s.abs := by
  have e : HandSHeadRun.getT s = s.abs.heap.get? := funext fun a => HandSHeadRun.getT_eq s a
  show He.obsD fa fn (He.frG (HandSHeadRun.getT s) (asE (HandSHeadRun.getT s))) = He.obsD fa fn (He.frG s.abs.heap.get? (asE s.abs.heap.get?))
  rw [e]
set_option maxHeartbeats 0 in
theorem run (w : World) : HandSHeadRun.RunEq Rw (PySem.W.view Rw.prog [34]) hk ob 9000 nm w := by
  intro os
  kernel_rfl
end Lk23
namespace Hs
open PySem PySem.Spec PyProof.Rows L2
abbrev D := PyData
abbrev St := L2.St
/-- what a slot holds: nothing known; a value that nobody changes; a list (rows of lists, a dict) that this slot alone holds; an object of a class with its fields -/
inductive PV where
  | d (x : D) | l (xs : List D) | dc (kvs : List (D × D)) | o (c : Str) (fs : List (Str × PV))
inductive SV where
  | no | d (x : D) | l (xs : List D) | ll (xss : List (List D)) | dc (kvs : List (D × D)) | ob (c : Str) (fs : List (Str × PV)) | tp (ws : List PV) | lo (ws : List PV)
/-- what an expression gives: a value; something new; what a slot holds -/
inductive R where
  | d (x : D) | own (v : SV) | top (i : Nat)
abbrev S := List SV
def keyD : Key → D
  | .inl i => .int i
  | .inr x => .str x
def keysD (ks : List Key) : D := .tuple (ks.map keyD)
/-- a list of ints that may be the text's own (nobody changes it): told by a dict of one key that no dict has -/
def litD (ns : List Int) : D := .dict [(.none, .list (ns.map .int))]
/-- a tuple of ints that the text itself made, known to have no dict of its own -/
def tfD (ns : List Int) : D := .dict [(.none, .tuple (ns.map .int))]
/-- a caught error of the class of that name -/
def excD (c : Str) : D := .dict [(.none, .str c)]
/-- an object of the class of that name that nobody changes -/
def obD (c : Str) (kvs : List (D × D)) : D := .dict ((.none, .bool true) :: (.none, .str c) :: kvs)
/-- an object's fields as a dict's entries -/
def obK (fs : List (Str × V)) : List (Key × V) := fs.map fun p => (.inr p.1, p.2)
/-- .. on the heap: an error of the class at C, at a -/
def ExV (C a : Addr) : HO := .ext fun h => ∃ (oe : Obj) (vs : Array Value), h.get? a = some oe ∧ Zc (.ref C) none oe ∧ oe.data = .fields vs
mutual
inductive Rp (K : PySem.W.Frag) (H : Hp) : V → PyData → Prop
  | non : Rp K H .non .none
  | bl (b : Bool) : Rp K H (.bl b) (.bool b)
  | int (i : Int) : Rp K H (.int i) (.int i)
  | str (x : Str) : Rp K H (.str x) (.str x)
  | lst {a : Addr} {xs : List V} {ds : List PyData} : Rd H a (.lst xs) → xs.length ≤ sizeLine → RpAll K H xs ds → Rp K H (.ref a) (.list ds)
  | tup {a : Addr} {xs : List V} {ds : List PyData} : H a = some (.tup xs) → xs.length ≤ sizeLine → RpAll K H xs ds → Rp K H (.ref a) (.tuple ds)
  | dcK {a : Addr} {ks : List (Key × V)} {kvs : List (PyData × PyData)} : Rd H a (.dK ks) → RpK K H ks kvs → Rp K H (.ref a) (.dict kvs)
  | dcT {a : Addr} {ks : List (List Key × V)} {kvs : List (PyData × PyData)} : Rd H a (.dT ks) → RpT K H ks kvs → Rp K H (.ref a) (.dict ((.none, .none) :: kvs))
  | lit {a : Addr} {ns : List Int} : SqL K H a (ns.map V.int) → ns.length ≤ sizeLine → Rp K H (.ref a) (litD ns)
  | exc {a : Addr} {c : Str} : H a = some (ExV (He.ga K c) a) → Rp K H (.ref a) (excD c)
  | tf {a : Addr} {ob : Obj} {ns : List Int} : H a = some (.frz ob (.tup (ns.map V.int))) → ob.cls = .type "tuple" → ob.dict = none → ns.length ≤ sizeLine → Rp K H (.ref a) (tfD ns)
  | obj {a dx : Addr} {c : Str} {fs : List (Str × V)} {kvs : List (PyData × PyData)} : H a = some (.ins (He.ga K c) dx fs) → H dx = some (.own a) → RpK K H (obK fs) kvs → Rp K H (.ref a) (.dict ((.none, .bool true) :: (.none, .str c) :: kvs))
inductive RpAll (K : PySem.W.Frag) (H : Hp) : List V → List PyData → Prop
  | nil : RpAll K H [] []
  | cons {v : V} {vs : List V} {d : PyData} {ds : List PyData} : Rp K H v d → RpAll K H vs ds → RpAll K H (v :: vs) (d :: ds)
inductive RpK (K : PySem.W.Frag) (H : Hp) : List (Key × V) → List (PyData × PyData) → Prop
  | nil : RpK K H [] []
  | cons {k : Key} {v : V} {ks : List (Key × V)} {d : PyData} {kvs : List (PyData × PyData)} : Rp K H v d → RpK K H ks kvs → RpK K H ((k, v) :: ks) ((keyD k, d) :: kvs)
inductive RpT (K : PySem.W.Frag) (H : Hp) : List (List Key × V) → List (PyData × PyData) → Prop
  | nil : RpT K H [] []
  | cons {k : List Key} {v : V} {ks : List (List Key × V)} {d : PyData} {kvs : List (PyData × PyData)} : Rp K H v d → RpT K H ks kvs → RpT K H ((k, v) :: ks) ((keysD k, d) :: kvs)
end
theorem same_sqT {K : PySem.W.Frag} {H H' : Hp} {a : Addr} {xs : List V} (e : Same H H') (h : SqT K H a xs) : SqT K H' a xs := by
  rcases h with (h | ⟨o, h⟩) | h
  · exact .inl (.inl (e _ _ h))
  · exact .inl (.inr ⟨o, e _ _ h⟩)
  · exact .inr h
theorem tupSq {K : PySem.W.Frag} {H : Hp} {a : Addr} {xs : List V} (h : H a = some (.tup xs)) : SqT K H a xs := .inl (.inl h)
theorem same_rd {H H' : Hp} {a : Addr} {u : HO} (e : Same H H') (h : Rd H a u) : Rd H' a u := by
  rcases h with h | ⟨o, h⟩
  · exact .inl (e _ _ h)
  · exact .inr ⟨o, e _ _ h⟩
section
variable {K : PySem.W.Frag} {H H' : Hp}
mutual
theorem Rp.mono (e : Same H H') : ∀ (d : PyData) (v : V), Rp K H v d → Rp K H' v d
  | .none, _, .non => .non
  | .bool _, _, .bl b => .bl b
  | .int _, _, .int i => .int i
  | .str _, _, .str x => .str x
  | .list ds, _, .lst h z a => .lst (same_rd e h) z (RpAll.mono e ds _ a)
  | .tuple ds, _, .tup h z a => .tup (e _ _ h) z (RpAll.mono e ds _ a)
  | .dict kvs, _, .dcK h a => .dcK (same_rd e h) (RpK.mono e kvs _ a)
  | .dict ((.none, .none) :: kvs), _, .dcT h a => .dcT (same_rd e h) (RpT.mono e kvs _ a)
  | _, _, .lit h z => .lit (e.seq h) z
  | _, _, .exc h => .exc (e _ _ h)
  | _, _, .tf h c d z => .tf (e _ _ h) c d z
  | .dict ((.none, .bool true) :: (.none, .str _) :: kvs), _, .obj h1 h2 a => .obj (e _ _ h1) (e _ _ h2) (RpK.mono e kvs _ a)
theorem RpAll.mono (e : Same H H') : ∀ (ds : List PyData) (vs : List V), RpAll K H vs ds → RpAll K H' vs ds
  | [], _, .nil => .nil
  | d :: ds, _, .cons h a => .cons (Rp.mono e d _ h) (RpAll.mono e ds _ a)
theorem RpK.mono (e : Same H H') : ∀ (kvs : List (PyData × PyData)) (ks : List (Key × V)), RpK K H ks kvs → RpK K H' ks kvs
  | [], _, .nil => .nil
  | (_, d) :: kvs, _, .cons h a => .cons (Rp.mono e d _ h) (RpK.mono e kvs _ a)
theorem RpT.mono (e : Same H H') : ∀ (kvs : List (PyData × PyData)) (ks : List (List Key × V)), RpT K H ks kvs → RpT K H' ks kvs
  | [], _, .nil => .nil
  | (_, d) :: kvs, _, .cons h a => .cons (Rp.mono e d _ h) (RpT.mono e kvs _ a)
end
theorem Rp.same {v : V} {d : D} (r : Rp K H v d) (e : Same H H') : Rp K H' v d := Rp.mono e d v r
theorem RpAll.same {vs : List V} {ds : List D} (r : RpAll K H vs ds) (e : Same H H') : RpAll K H' vs ds := RpAll.mono e ds vs r
theorem RpK.same {ks : List (Key × V)} {kvs : List (D × D)} (r : RpK K H ks kvs) (e : Same H H') : RpK K H' ks kvs := RpK.mono e kvs ks r
theorem RpT.same {ks : List (List Key × V)} {kvs : List (D × D)} (r : RpT K H ks kvs) (e : Same H H') : RpT K H' ks kvs := RpT.mono e kvs ks r
theorem RpAll.length : ∀ {vs : List V} {ds : List D}, RpAll K H vs ds → vs.length = ds.length
  | _, _, .nil => rfl
  | _, _, .cons _ a => congrArg (· + 1) (RpAll.length a)
theorem RpAll.append : ∀ {vs ws : List V} {ds es : List D}, RpAll K H vs ds → RpAll K H ws es → RpAll K H (vs ++ ws) (ds ++ es)
  | _, _, _, _, .nil, b => b
  | _, _, _, _, .cons h a, b => .cons h (RpAll.append a b)
theorem RpAll.get : ∀ {vs : List V} {ds : List D} {i : Nat} {d : D}, RpAll K H vs ds → ds[i]? = some d → ∃ v, vs[i]? = some v ∧ Rp K H v d
  | _, _, _, _, .nil, e => by simp at e
  | _, _, 0, _, .cons h _, e => by
    cases e
    exact ⟨_, rfl, h⟩
  | _, _, i + 1, _, .cons _ a, e => RpAll.get (i := i) a e
theorem RpAll.getV : ∀ {vs : List V} {ds : List D} {i : Nat} {v : V}, RpAll K H vs ds → vs[i]? = some v → ∃ d, ds[i]? = some d ∧ Rp K H v d
  | _, _, _, _, .nil, e => by simp at e
  | _, _, 0, _, .cons h _, e => by
    cases e
    exact ⟨_, rfl, h⟩
  | _, _, i + 1, _, .cons _ a, e => RpAll.getV (i := i) a e
theorem RpAll.take : ∀ {vs : List V} {ds : List D} (n : Nat), RpAll K H vs ds → RpAll K H (vs.take n) (ds.take n)
  | _, _, 0, _ => .nil
  | _, _, _ + 1, .nil => .nil
  | _, _, n + 1, .cons h a => .cons h (RpAll.take n a)
theorem RpAll.drop : ∀ {vs : List V} {ds : List D} (n : Nat), RpAll K H vs ds → RpAll K H (vs.drop n) (ds.drop n)
  | _, _, 0, a => a
  | _, _, _ + 1, .nil => .nil
  | _, _, n + 1, .cons _ a => RpAll.drop n a
theorem RpAll.set {v : V} {d : D} (r : Rp K H v d) : ∀ {vs : List V} {ds : List D} (i : Nat), RpAll K H vs ds → RpAll K H (vs.set i v) (ds.set i d)
  | _, _, _, .nil => .nil
  | _, _, 0, .cons _ a => .cons r a
  | _, _, i + 1, .cons h a => .cons h (RpAll.set r i a)
theorem RpAll.ints : ∀ {vs : List V} {ns : List Int}, RpAll K H vs (ns.map PyData.int) → vs = ns.map V.int
  | _, [], .nil => rfl
  | _, n :: ns, .cons (.int _) a => by rw [RpAll.ints a]; rfl
theorem RpAll.of_ints : ∀ ns : List Int, RpAll K H (ns.map V.int) (ns.map PyData.int)
  | [] => .nil
  | n :: ns => .cons (.int n) (RpAll.of_ints ns)
theorem RpAll.bools : ∀ {vs : List V} {ns : List Bool}, RpAll K H vs (ns.map PyData.bool) → vs = ns.map V.bl
  | _, [], .nil => rfl
  | _, n :: ns, .cons (.bl _) a => by rw [RpAll.bools a]; rfl
end
/-- rows of lists, each held by no other -/
inductive LL (K : PySem.W.Frag) (Z H : Hp) : List Addr → List (List D) → Prop
  | nil : LL K Z H [] []
  | cons {q : Addr} {vs : List V} {qs : List Addr} {xs : List D} {xss : List (List D)} : H q = some (.lst vs) → vs.length ≤ sizeLine → RpAll K Z vs xs → LL K Z H qs xss → LL K Z H (q :: qs) (xs :: xss)
def DcAt (K : PySem.W.Frag) (Z H : Hp) (p : Addr) (kvs : List (D × D)) : Prop :=
  (∃ ks, H p = some (.dK ks) ∧ RpK K Z ks kvs) ∨ ∃ ks kvs', kvs = (.none, .none) :: kvs' ∧ H p = some (.dT ks) ∧ RpT K Z ks kvs'
mutual
/-- the parts of a tuple (a list, an object) that one slot alone holds -/
def PartAt (K : PySem.W.Frag) (Z H : Hp) : V → PV → List Addr → Prop
  | v, .d x, F => F = [] ∧ Rp K Z v x
  | v, .l xs, F => ∃ p vs, v = .ref p ∧ F = [p] ∧ H p = some (.lst vs) ∧ vs.length ≤ sizeLine ∧ RpAll K Z vs xs
  | v, .dc kvs, F => ∃ p, v = .ref p ∧ F = [p] ∧ DcAt K Z H p kvs
  | v, .o c fs, F => ∃ p dx vs G, v = .ref p ∧ F = p :: dx :: G ∧ H p = some (.ins (He.ga K c) dx ((fs.map (·.1)).zip vs)) ∧ H dx = some (.own p) ∧ PsAt K Z H vs fs G
def PsAt (K : PySem.W.Frag) (Z H : Hp) : List V → List (Str × PV) → List Addr → Prop
  | [], [], F => F = []
  | v :: vs, (_, w) :: fs, F => ∃ F1 F2, F = F1 ++ F2 ∧ PartAt K Z H v w F1 ∧ PsAt K Z H vs fs F2
  | _, _, _ => False
end
inductive TpAt (K : PySem.W.Frag) (Z H : Hp) : List V → List PV → List Addr → Prop
  | nil : TpAt K Z H [] [] []
  | cons {v : V} {w : PV} {F G : List Addr} {vs : List V} {ws : List PV} : PartAt K Z H v w F → TpAt K Z H vs ws G → TpAt K Z H (v :: vs) (w :: ws) (F ++ G)
mutual
def PV.asD : PV → D
  | .d x => x
  | .l xs => .list xs
  | .dc kvs => .dict kvs
  | .o c fs => obD c (PV.asDs fs)
def PV.asDs : List (Str × PV) → List (D × D)
  | [] => []
  | (n, w) :: fs => (.str n, PV.asD w) :: PV.asDs fs
end
theorem PsAt.tp {K : PySem.W.Frag} {Z H : Hp} : ∀ {fs : List (Str × PV)} {vs : List V} {F : List Addr}, PsAt K Z H vs fs F → TpAt K Z H vs (fs.map (·.2)) F
  | [], [], _, h => by rw [show _ = [] from h]; exact .nil
  | (n, w) :: fs, v :: vs, _, h => by
    obtain ⟨F1, F2, e, h1, h2⟩ := h
    rw [e]; exact .cons h1 (PsAt.tp h2)
  | [], _ :: _, _, h => h.elim
  | _ :: _, [], _, h => h.elim
/-- how a slot's content stands; F: the addresses that it alone holds -/
def SlotAt (K : PySem.W.Frag) (Z H : Hp) (v : Option V) : SV → List Addr → Prop
  | .no, F => F = []
  | .d x, F => F = [] ∧ ∃ u, v = some u ∧ Rp K Z u x
  | .l xs, F => ∃ p vs, v = some (.ref p) ∧ F = [p] ∧ H p = some (.lst vs) ∧ vs.length ≤ sizeLine ∧ RpAll K Z vs xs
  | .ll xss, F => ∃ p qs, v = some (.ref p) ∧ F = p :: qs ∧ H p = some (.lst (qs.map V.ref)) ∧ qs.length ≤ sizeLine ∧ LL K Z H qs xss
  | .dc kvs, F => ∃ p, v = some (.ref p) ∧ F = [p] ∧ DcAt K Z H p kvs
  | .ob c fs, F => ∃ p dx vs G, v = some (.ref p) ∧ F = p :: dx :: G ∧ H p = some (.ins (He.ga K c) dx ((fs.map (·.1)).zip vs)) ∧ H dx = some (.own p) ∧ TpAt K Z H vs (fs.map (·.2)) G
  | .tp ws, F => ∃ p vs, v = some (.ref p) ∧ Z p = some (.tup vs) ∧ vs.length ≤ sizeLine ∧ TpAt K Z H vs ws F
  | .lo ws, F => ∃ p vs G, v = some (.ref p) ∧ F = p :: G ∧ H p = some (.lst vs) ∧ vs.length ≤ sizeLine ∧ TpAt K Z H vs ws G
section
variable {K : PySem.W.Frag} {Z Z' H H' : Hp}
theorem LL.mono (e : Same Z Z') : ∀ {qs : List Addr} {xss : List (List D)}, (∀ a ∈ qs, ∀ o, H a = some o → H' a = some o) → LL K Z H qs xss → LL K Z' H' qs xss
  | _, _, _, .nil => .nil
  | _, _, k, .cons h z a r => .cons (k _ List.mem_cons_self _ h) z (a.same e) (LL.mono e (fun b hb => k b (List.mem_cons_of_mem _ hb)) r)
theorem DcAt.mono {p : Addr} {kvs : List (D × D)} (e : Same Z Z') (kp : ∀ o, H p = some o → H' p = some o) (h : DcAt K Z H p kvs) : DcAt K Z' H' p kvs := by
  rcases h with ⟨ks, e1, r⟩ | ⟨ks, kvs', e0, e1, r⟩
  · exact .inl ⟨ks, kp _ e1, r.same e⟩
  · exact .inr ⟨ks, kvs', e0, kp _ e1, r.same e⟩
theorem DcAt.there {p : Addr} {kvs : List (D × D)} (h : DcAt K Z H p kvs) : H p ≠ none := by
  rcases h with ⟨ks, e1, r⟩ | ⟨ks, kvs', e0, e1, r⟩ <;> (rw [e1]; exact fun z => nomatch z)
mutual
theorem PartAt.mono0 (e : Same Z Z') : ∀ (w : PV) {v : V} {F : List Addr}, (∀ a ∈ F, ∀ o, H a = some o → H' a = some o) → PartAt K Z H v w F → PartAt K Z' H' v w F
  | .d x, _, _, _, h => ⟨h.1, h.2.same e⟩
  | .l xs, _, _, k, h => by
    obtain ⟨p, vs, h1, h2, h3, h4, h5⟩ := h
    exact ⟨p, vs, h1, h2, k p (by rw [h2]; exact List.mem_cons_self) _ h3, h4, h5.same e⟩
  | .dc kvs, _, _, k, h => by
    obtain ⟨p, h1, h2, h3⟩ := h
    exact ⟨p, h1, h2, h3.mono e (k p (by rw [h2]; exact List.mem_cons_self))⟩
  | .o c fs, _, _, k, h => by
    obtain ⟨p, dx, vs, G, h1, h2, h3, h4, h5⟩ := h
    exact ⟨p, dx, vs, G, h1, h2, k p (by rw [h2]; simp) _ h3, k dx (by rw [h2]; simp) _ h4, PsAt.mono0 e fs (fun a ha => k a (by rw [h2]; simp [ha])) h5⟩
theorem PsAt.mono0 (e : Same Z Z') : ∀ (fs : List (Str × PV)) {vs : List V} {F : List Addr}, (∀ a ∈ F, ∀ o, H a = some o → H' a = some o) → PsAt K Z H vs fs F → PsAt K Z' H' vs fs F
  | [], [], _, _, h => h
  | (n, w) :: fs, v :: vs, _, k, h => by
    obtain ⟨F1, F2, e1, h1, h2⟩ := h
    exact ⟨F1, F2, e1, PartAt.mono0 e w (fun a ha => k a (by rw [e1]; exact List.mem_append.mpr (.inl ha))) h1, PsAt.mono0 e fs (fun a ha => k a (by rw [e1]; exact List.mem_append.mpr (.inr ha))) h2⟩
  | [], _ :: _, _, _, h => h.elim
  | _ :: _, [], _, _, h => h.elim
end
theorem PartAt.mono {v : V} {w : PV} {F : List Addr} (e : Same Z Z') (k : ∀ a ∈ F, ∀ o, H a = some o → H' a = some o) (h : PartAt K Z H v w F) : PartAt K Z' H' v w F := PartAt.mono0 e w k h
/-- what is there at all of a part's things: no tuple -/
def HasP (H : Hp) (F : List Addr) : Prop := ∀ a ∈ F, H a ≠ none ∧ ∀ vs, H a ≠ some (.tup vs)
theorem HasP.app {F G : List Addr} (h1 : HasP H F) (h2 : HasP H G) : HasP H (F ++ G) := fun a ha => (List.mem_append.mp ha).elim (h1 a) (h2 a)
theorem HasP.one {p : Addr} {o : HO} (h : H p = some o) (n : ∀ vs, o ≠ .tup vs) : HasP H [p] := fun a ha => by
  obtain rfl : a = p := by simpa using ha
  refine ⟨fun e => ?_, fun vs e => n vs (Option.some.inj (h.symm.trans e))⟩
  rw [h] at e; cases e
mutual
theorem PartAt.has : ∀ (w : PV) {v : V} {F : List Addr}, PartAt K Z H v w F → HasP H F
  | .d x, _, _, h => by rw [h.1]; exact fun a ha => nomatch ha
  | .l xs, _, _, h => by
    obtain ⟨p, vs, h1, h2, h3, h4, h5⟩ := h
    rw [h2]; exact .one h3 fun _ z => nomatch z
  | .dc kvs, _, _, h => by
    obtain ⟨p, h1, h2, h3⟩ := h
    rw [h2]
    rcases h3 with ⟨ks, e1, r⟩ | ⟨ks, kvs', e0, e1, r⟩ <;> exact .one e1 fun _ z => nomatch z
  | .o c fs, _, _, h => by
    obtain ⟨p, dx, vs, G, h1, h2, h3, h4, h5⟩ := h
    rw [h2]
    exact HasP.app (F := [p]) (.one h3 fun _ z => nomatch z) (HasP.app (F := [dx]) (.one h4 fun _ z => nomatch z) (PsAt.has fs h5))
theorem PsAt.has : ∀ (fs : List (Str × PV)) {vs : List V} {F : List Addr}, PsAt K Z H vs fs F → HasP H F
  | [], [], _, h => by rw [show _ = [] from h]; exact fun a ha => nomatch ha
  | (n, w) :: fs, v :: vs, _, h => by
    obtain ⟨F1, F2, e1, h1, h2⟩ := h
    rw [e1]
    exact (PartAt.has w h1).app (PsAt.has fs h2)
  | [], _ :: _, _, h => h.elim
  | _ :: _, [], _, h => h.elim
end
theorem PartAt.there {v : V} {w : PV} {F : List Addr} (h : PartAt K Z H v w F) : ∀ a ∈ F, H a ≠ none := fun a ha => (PartAt.has w h a ha).1
theorem TpAt.mono (e : Same Z Z') : ∀ {vs : List V} {ws : List PV} {F : List Addr}, (∀ a ∈ F, ∀ o, H a = some o → H' a = some o) → TpAt K Z H vs ws F → TpAt K Z' H' vs ws F
  | _, _, _, _, .nil => .nil
  | _, _, _, k, .cons h r => .cons (h.mono e fun a ha => k a (List.mem_append.mpr (.inl ha))) (TpAt.mono e (fun a ha => k a (List.mem_append.mpr (.inr ha))) r)
theorem TpAt.there {vs : List V} {ws : List PV} {F : List Addr} (h : TpAt K Z H vs ws F) : ∀ a ∈ F, H a ≠ none := by
  induction h with
  | nil => intro a ha; cases ha
  | cons h r ih =>
    intro a ha
    rcases List.mem_append.mp ha with ha | ha
    · exact h.there a ha
    · exact ih a ha
theorem TpAt.length {vs : List V} {ws : List PV} {F : List Addr} (h : TpAt K Z H vs ws F) : vs.length = ws.length := by
  induction h with
  | nil => rfl
  | cons h r ih => rw [List.length_cons, List.length_cons, ih]
theorem SlotAt.mono {v : Option V} {sv : SV} {F : List Addr} (e : Same Z Z') (k : ∀ a ∈ F, ∀ o, H a = some o → H' a = some o) (h : SlotAt K Z H v sv F) : SlotAt K Z' H' v sv F := by
  cases sv with
  | no => exact h
  | d x =>
    obtain ⟨h1, u, h2, r⟩ := h
    exact ⟨h1, u, h2, r.same e⟩
  | l xs =>
    obtain ⟨p, vs, h1, h2, h3, h4, h5⟩ := h
    exact ⟨p, vs, h1, h2, k p (by rw [h2]; exact List.mem_cons_self) _ h3, h4, h5.same e⟩
  | ll xss =>
    obtain ⟨p, qs, h1, h2, h3, h4, h5⟩ := h
    exact ⟨p, qs, h1, h2, k p (by rw [h2]; exact List.mem_cons_self) _ h3, h4, h5.mono e fun a ha => k a (by rw [h2]; exact List.mem_cons_of_mem _ ha)⟩
  | dc kvs =>
    obtain ⟨p, h1, h2, h3⟩ := h
    exact ⟨p, h1, h2, h3.mono e (k p (by rw [h2]; exact List.mem_cons_self))⟩
  | ob c fs =>
    obtain ⟨p, dx, vs, G, h1, h2, h3, h4, h5⟩ := h
    exact ⟨p, dx, vs, G, h1, h2, k p (by rw [h2]; simp) _ h3, k dx (by rw [h2]; simp) _ h4, h5.mono e fun a ha => k a (by rw [h2]; simp [ha])⟩
  | tp ws =>
    obtain ⟨p, vs, h1, h3, h4, h5⟩ := h
    exact ⟨p, vs, h1, e _ _ h3, h4, h5.mono e k⟩
  | lo ws =>
    obtain ⟨p, vs, G, h1, h2, h3, h4, h5⟩ := h
    exact ⟨p, vs, G, h1, h2, k p (by rw [h2]; simp) _ h3, h4, h5.mono e fun a ha => k a (by rw [h2]; simp [ha])⟩
theorem SlotAt.there {v : Option V} {sv : SV} {F : List Addr} (h : SlotAt K Z H v sv F) : ∀ a ∈ F, H a ≠ none := by
  have LLt : ∀ {qs : List Addr} {xss : List (List D)}, LL K Z H qs xss → ∀ a ∈ qs, H a ≠ none := by
    intro qs xss r
    induction r with
    | nil => intro a ha; cases ha
    | cons h z a r ih =>
      intro b hb
      rcases List.mem_cons.mp hb with rfl | hb
      · rw [h]; exact fun z => nomatch z
      · exact ih b hb
  intro a ha
  cases sv with
  | no => rw [show F = [] from h] at ha; cases ha
  | d x => rw [h.1] at ha; cases ha
  | l xs =>
    obtain ⟨p, vs, h1, h2, h3, h4, h5⟩ := h
    rw [h2] at ha
    obtain rfl : a = p := by simpa using ha
    rw [h3]; exact fun z => nomatch z
  | ll xss =>
    obtain ⟨p, qs, h1, h2, h3, h4, h5⟩ := h
    rw [h2] at ha
    rcases List.mem_cons.mp ha with rfl | ha
    · rw [h3]; exact fun z => nomatch z
    · exact LLt h5 a ha
  | dc kvs =>
    obtain ⟨p, h1, h2, h3⟩ := h
    rw [h2] at ha
    obtain rfl : a = p := by simpa using ha
    exact h3.there
  | ob c fs =>
    obtain ⟨p, dx, vs, G, h1, h2, h3, h4, h5⟩ := h
    rw [h2] at ha
    rcases List.mem_cons.mp ha with rfl | ha
    · rw [h3]; exact fun z => nomatch z
    · rcases List.mem_cons.mp ha with rfl | ha
      · rw [h4]; exact fun z => nomatch z
      · exact h5.there a ha
  | tp ws =>
    obtain ⟨p, vs, h1, h3, h4, h5⟩ := h
    exact h5.there a ha
  | lo ws =>
    obtain ⟨p, vs, G, h1, h2, h3, h4, h5⟩ := h
    rw [h2] at ha
    rcases List.mem_cons.mp ha with rfl | ha
    · rw [h3]; exact fun z => nomatch z
    · exact h5.there a ha
theorem DcAt.nt {p : Addr} {kvs : List (D × D)} (h : DcAt K Z H p kvs) : ∀ vs, H p ≠ some (.tup vs) := by
  intro vs
  rcases h with ⟨ks, e1, r⟩ | ⟨ks, kvs', e0, e1, r⟩ <;> (rw [e1]; exact fun z => nomatch z)
theorem PartAt.nt {v : V} {w : PV} {F : List Addr} (h : PartAt K Z H v w F) : ∀ a ∈ F, ∀ vs, H a ≠ some (.tup vs) := fun a ha => (PartAt.has w h a ha).2
theorem TpAt.nt {vs : List V} {ws : List PV} {F : List Addr} (h : TpAt K Z H vs ws F) : ∀ a ∈ F, ∀ vs, H a ≠ some (.tup vs) := by
  induction h with
  | nil => intro a ha; cases ha
  | cons h r ih =>
    intro a ha
    rcases List.mem_append.mp ha with ha | ha
    · exact h.nt a ha
    · exact ih a ha
theorem SlotAt.nt {v : Option V} {sv : SV} {F : List Addr} (h : SlotAt K Z H v sv F) : ∀ a ∈ F, ∀ vs, H a ≠ some (.tup vs) := by
  have LLt : ∀ {qs : List Addr} {xss : List (List D)}, LL K Z H qs xss → ∀ a ∈ qs, ∀ vs, H a ≠ some (.tup vs) := by
    intro qs xss r
    induction r with
    | nil => intro a ha; cases ha
    | cons h z a r ih =>
      intro b hb us
      rcases List.mem_cons.mp hb with rfl | hb
      · rw [h]; exact fun z => nomatch z
      · exact ih b hb us
  intro a ha us
  cases sv with
  | no => rw [show F = [] from h] at ha; cases ha
  | d x => rw [h.1] at ha; cases ha
  | l xs =>
    obtain ⟨p, vs, h1, h2, h3, h4, h5⟩ := h
    rw [h2] at ha
    obtain rfl : a = p := by simpa using ha
    rw [h3]; exact fun z => nomatch z
  | ll xss =>
    obtain ⟨p, qs, h1, h2, h3, h4, h5⟩ := h
    rw [h2] at ha
    rcases List.mem_cons.mp ha with rfl | ha
    · rw [h3]; exact fun z => nomatch z
    · exact LLt h5 a ha us
  | dc kvs =>
    obtain ⟨p, h1, h2, h3⟩ := h
    rw [h2] at ha
    obtain rfl : a = p := by simpa using ha
    exact h3.nt us
  | ob c fs =>
    obtain ⟨p, dx, vs, G, h1, h2, h3, h4, h5⟩ := h
    rw [h2] at ha
    rcases List.mem_cons.mp ha with rfl | ha
    · rw [h3]; exact fun z => nomatch z
    · rcases List.mem_cons.mp ha with rfl | ha
      · rw [h4]; exact fun z => nomatch z
      · exact h5.nt a ha us
  | tp ws =>
    obtain ⟨p, vs, h1, h3, h4, h5⟩ := h
    exact h5.nt a ha us
  | lo ws =>
    obtain ⟨p, vs, G, h1, h2, h3, h4, h5⟩ := h
    rw [h2] at ha
    rcases List.mem_cons.mp ha with rfl | ha
    · rw [h3]; exact fun z => nomatch z
    · exact h5.nt a ha us
end
/-- the state: Z what nobody changes, Y what others hold, H all; σ the slots' values, s what they hold -/
structure OwnF (K : PySem.W.Frag) (Z Y H : Hp) (σ : St) (s : S) (F : Nat → List Addr) : Prop where
  at_ : ∀ i, SlotAt K Z H (σ.getD i none) (s.getD i .no) (F i)
  nd : ∀ i, (F i).Nodup
  dj : ∀ i j a, a ∈ F i → a ∈ F j → i = j
  fr : ∀ i a, a ∈ F i → Z a = none ∧ Y a = none
structure Rel (K : PySem.W.Frag) (Z Y H : Hp) (σ : St) (s : S) : Prop where
  zh : Same Z H
  yh : Same Y H
  zy : ∀ a, Z a ≠ none → Y a = none
  yt : ∀ a vs, Y a ≠ some (.tup vs)
  len : σ.length = s.length
  own : ∃ F, OwnF K Z Y H σ s F
section
variable {K : PySem.W.Frag} {Z Z' Y Y' H H' : Hp} {σ σ' : St} {s s' : S}
/-- the slots put otherwise, some forgotten -/
theorem Rel.re (r : Rel K Z Y H σ s) (f : Nat → Option Nat) (hl : σ'.length = s'.length)
    (h : ∀ k, match f k with | none => s'.getD k .no = .no ∨ ∃ x v, s'.getD k .no = .d x ∧ σ'.getD k none = some v ∧ Rp K Z v x | some j => s'.getD k .no = s.getD j .no ∧ σ'.getD k none = σ.getD j none)
    (inj : ∀ k k' j, f k = some j → f k' = some j → k = k') : Rel K Z Y H σ' s' := by
  obtain ⟨F, o⟩ := r.own
  refine ⟨r.zh, r.yh, r.zy, r.yt, hl, fun k => match f k with | none => [] | some j => F j, fun k => ?_, fun k => ?_, fun k k' a ha ha' => ?_, fun k a ha => ?_⟩
  · have hk := h k
    cases e : f k with
    | none =>
      rw [e] at hk
      rcases hk with hk | ⟨x, v, h1, h2, h3⟩
      · rw [hk]; exact rfl
      · rw [h1]; exact ⟨rfl, v, h2, h3⟩
    | some j =>
      rw [e] at hk
      rw [hk.1, hk.2]
      exact o.at_ j
  · cases e : f k with
    | none => exact .nil
    | some j => exact o.nd j
  · cases e : f k with
    | none => rw [e] at ha; cases ha
    | some j =>
      rw [e] at ha
      cases e' : f k' with
      | none => rw [e'] at ha'; cases ha'
      | some j' =>
        rw [e'] at ha'
        have := o.dj j j' a ha ha'
        subst this
        exact inj k k' j e e'
  · cases e : f k with
    | none => rw [e] at ha; cases ha
    | some j =>
      rw [e] at ha
      exact o.fr j a ha
theorem getD_app_lt {α : Type} {l r : List α} {i : Nat} {d : α} (h : i < l.length) : (l ++ r).getD i d = l.getD i d := by
  rw [List.getD_eq_getElem?_getD, List.getD_eq_getElem?_getD, List.getElem?_append_left h]
theorem getD_app_ge {α : Type} {l r : List α} {i : Nat} {d : α} (h : l.length ≤ i) : (l ++ r).getD i d = r.getD (i - l.length) d := by
  rw [List.getD_eq_getElem?_getD, List.getD_eq_getElem?_getD, List.getElem?_append_right h]
theorem getD_out {α : Type} {l : List α} {i : Nat} {d : α} (h : l.length ≤ i) : l.getD i d = d := by
  rw [List.getD_eq_getElem?_getD, List.getElem?_eq_none h]; rfl
theorem getD_set_self {α : Type} {l : List α} {i : Nat} {d x : α} (h : i < l.length) : (l.set i x).getD i d = x := by
  rw [List.getD_eq_getElem?_getD, List.getElem?_set_self h]; rfl
theorem getD_set_ne {α : Type} {l : List α} {i j : Nat} {d x : α} (h : i ≠ j) : (l.set i x).getD j d = l.getD j d := by
  rw [List.getD_eq_getElem?_getD, List.getD_eq_getElem?_getD, List.getElem?_set_ne h]
/-- the last slots put aside: whatever happens to the others, they stand -/
theorem Rel.frame {ts : St} {us : S} (r : Rel K Z Y H (σ ++ ts) (s ++ us)) (hl : σ.length = s.length) :
    ∃ Y', Same Y Y' ∧ Rel K Z Y' H σ s ∧ (∀ Z1 H1 σ1 s1, Same Z Z1 → Rel K Z1 Y' H1 σ1 s1 → Rel K Z1 Y H1 (σ1 ++ ts) (s1 ++ us)) ∧ ∀ j, ∃ F, SlotAt K Z Y' (ts.getD j none) (us.getD j .no) F := by
  classical
  obtain ⟨F, o⟩ := r.own
  have hl2 : ts.length = us.length := by
    have := r.len
    rw [List.length_append, List.length_append] at this
    omega
  -- what the last slots hold
  refine ⟨fun a => if ∃ i, σ.length ≤ i ∧ a ∈ F i then H a else Y a, fun a q e => ?_, ⟨r.zh, fun a q e => ?_, fun a hz => ?_, fun a vs => ?_, hl, fun i => if i < σ.length then F i else [], fun i => ?_, fun i => ?_, fun i j a ha ha' => ?_, fun i a ha => ?_⟩, ?_⟩
  · show (if _ then _ else _) = _
    split
    · rename_i hc
      obtain ⟨i, _, hi⟩ := hc
      rw [(o.fr i a hi).2] at e; cases e
    · exact e
  · have e : (if ∃ i, σ.length ≤ i ∧ a ∈ F i then H a else Y a) = some q := e
    split at e
    · exact e
    · exact r.yh a q e
  · show (if _ then _ else _) = _
    split
    · rename_i hc
      obtain ⟨i, _, hi⟩ := hc
      exact absurd (o.fr i a hi).1 hz
    · exact r.zy a hz
  · show (if _ then _ else _) ≠ _
    split
    · rename_i hc
      obtain ⟨i, _, hi⟩ := hc
      exact (o.at_ i).nt a hi vs
    · exact r.yt a vs
  · by_cases hi : i < σ.length
    · rw [if_pos hi]
      have := o.at_ i
      rw [getD_app_lt hi, getD_app_lt (by omega)] at this
      exact this
    · rw [if_neg hi, getD_out (l := s) (by omega)]
      exact rfl
  · by_cases hi : i < σ.length
    · rw [if_pos hi]; exact o.nd i
    · rw [if_neg hi]; exact .nil
  · by_cases hi : i < σ.length
    · by_cases hj : j < σ.length
      · rw [if_pos hi] at ha; rw [if_pos hj] at ha'
        exact o.dj i j a ha ha'
      · rw [if_neg hj] at ha'; cases ha'
    · rw [if_neg hi] at ha; cases ha
  · by_cases hi : i < σ.length
    · rw [if_pos hi] at ha
      refine ⟨(o.fr i a ha).1, ?_⟩
      show (if _ then _ else _) = _
      rw [if_neg]
      · exact (o.fr i a ha).2
      · rintro ⟨j, hj, ha'⟩
        have := o.dj i j a ha ha'
        omega
    · rw [if_neg hi] at ha; cases ha
  refine ⟨?_, fun j => ⟨F (σ.length + j), ?_⟩⟩
  rotate_left
  · have q := o.at_ (σ.length + j)
    rw [getD_app_ge (by omega), getD_app_ge (by omega), ← hl, Nat.add_sub_cancel_left] at q
    exact q.mono (Same.refl _) fun a ha ob e => (if_pos ⟨_, Nat.le_add_right _ _, ha⟩ : (if ∃ i, σ.length ≤ i ∧ a ∈ F i then H a else Y a) = H a).trans e
  · intro Z1 H1 σ1 s1 hz r1
    obtain ⟨F1, o1⟩ := r1.own
    have yy : ∀ i, σ.length ≤ i → ∀ a ∈ F i, (if ∃ i, σ.length ≤ i ∧ a ∈ F i then H a else Y a) = H a := fun i hi a ha => if_pos ⟨i, hi, ha⟩
    refine ⟨r1.zh, fun a q e => r1.yh a q ?_, fun a hza => ?_, r.yt, by rw [List.length_append, List.length_append, r1.len, hl2], fun i => if i < σ1.length then F1 i else F (i - σ1.length + σ.length), fun i => ?_, fun i => ?_, fun i j a ha ha' => ?_, fun i a ha => ?_⟩
    · show (if _ then _ else _) = _
      split
      · rename_i hc
        obtain ⟨i, _, hi⟩ := hc
        rw [(o.fr i a hi).2] at e; cases e
      · exact e
    · have q := r1.zy a hza
      have q : (if ∃ i, σ.length ≤ i ∧ a ∈ F i then H a else Y a) = none := q
      split at q
      · rename_i hc
        obtain ⟨i, _, hi⟩ := hc
        exact (o.fr i a hi).2
      · exact q
    · by_cases hi : i < σ1.length
      · rw [if_pos hi, getD_app_lt hi, getD_app_lt (by have := r1.len; omega)]
        exact o1.at_ i
      · rw [if_neg hi, getD_app_ge (by omega), getD_app_ge (by have := r1.len; omega), ← r1.len]
        have q := o.at_ (i - σ1.length + σ.length)
        rw [getD_app_ge (by omega), getD_app_ge (by omega), ← hl, Nat.add_sub_cancel] at q
        refine q.mono hz fun a ha ob e => ?_
        refine r1.yh a ob ?_
        exact (yy _ (by omega) a ha).trans e
    · by_cases hi : i < σ1.length
      · rw [if_pos hi]; exact o1.nd i
      · rw [if_neg hi]; exact o.nd _
    · have cross : ∀ i k, a ∈ F1 i → σ.length ≤ k → a ∈ F k → False := fun i k h1 hk h2 => by
        have q := (o1.fr i a h1).2
        exact (o.at_ k).there a h2 ((yy k hk a h2).symm.trans q)
      by_cases hi : i < σ1.length
      · rw [if_pos hi] at ha
        by_cases hj : j < σ1.length
        · rw [if_pos hj] at ha'; exact o1.dj i j a ha ha'
        · rw [if_neg hj] at ha'; exact (cross i _ ha (by omega) ha').elim
      · rw [if_neg hi] at ha
        by_cases hj : j < σ1.length
        · rw [if_pos hj] at ha'; exact (cross j _ ha' (by omega) ha).elim
        · rw [if_neg hj] at ha'
          have := o.dj _ _ a ha ha'
          omega
    · by_cases hi : i < σ1.length
      · rw [if_pos hi] at ha
        have q := o1.fr i a ha
        refine ⟨q.1, ?_⟩
        have q2 : (if ∃ i, σ.length ≤ i ∧ a ∈ F i then H a else Y a) = none := q.2
        split at q2
        · rename_i hc
          obtain ⟨j, _, hj⟩ := hc
          exact (o.fr j a hj).2
        · exact q2
      · rw [if_neg hi] at ha
        refine ⟨?_, (o.fr _ a ha).2⟩
        cases e : Z1 a with
        | none => rfl
        | some q =>
          have := r1.zy a (by rw [e]; exact fun z => nomatch z)
          exact absurd ((yy _ (by omega) a ha).symm.trans this) ((o.at_ _).there a ha)
/-- the heap and what nobody changes have grown; tuples that stood in the heap may be taken in -/
theorem Rel.growE (r : Rel K Z Y H σ s) (hh : Same H H') (hz : Same Z Z') (zh : Same Z' H') (new : ∀ a, H a ≠ none → Z' a = Z a ∨ ∃ vs, H a = some (.tup vs)) : Rel K Z' Y H' σ s := by
  obtain ⟨F, o⟩ := r.own
  refine ⟨zh, fun a q e => hh a q (r.yh a q e), fun a hz' => ?_, r.yt, r.len, F, fun i => ?_, o.nd, o.dj, fun i a ha => ?_⟩
  · cases e : Y a with
    | none => rfl
    | some q =>
      have h1 : H a ≠ none := by rw [r.yh a q e]; exact fun z => nomatch z
      rcases new a h1 with h | ⟨vs, h⟩
      · rw [h] at hz'
        rw [r.zy a hz'] at e; cases e
      · have := r.yh a q e
        rw [h] at this
        rw [← Option.some.inj this] at e
        exact absurd e (r.yt a vs)
  · exact (o.at_ i).mono hz fun a _ ob e => hh a ob e
  · have h1 := (o.at_ i).there a ha
    rcases new a h1 with h | ⟨vs, h⟩
    · rw [h]
      exact o.fr i a ha
    · exact absurd h ((o.at_ i).nt a ha vs)
/-- .. tuples that stand in the heap are taken in -/
theorem Rel.growT (r : Rel K Z Y H σ s) (hz : Same Z Z') (zh : Same Z' H) (new : ∀ a, Z' a = Z a ∨ ∃ vs, H a = some (.tup vs)) : Rel K Z' Y H σ s := by
  obtain ⟨F, o⟩ := r.own
  refine ⟨zh, r.yh, fun a hz' => ?_, r.yt, r.len, F, fun i => (o.at_ i).mono hz fun a _ ob e => e, o.nd, o.dj, fun i a ha => ?_⟩
  · cases e : Y a with
    | none => rfl
    | some q =>
      rcases new a with h | ⟨vs, h⟩
      · rw [h] at hz'
        rw [r.zy a hz'] at e; cases e
      · have := r.yh a q e
        rw [h] at this
        rw [← Option.some.inj this] at e
        exact absurd e (r.yt a vs)
  · rcases new a with h | ⟨vs, h⟩
    · rw [h]
      exact o.fr i a ha
    · exact absurd h ((o.at_ i).nt a ha vs)
theorem same_upd {H : Hp} {p : Addr} {o : HO} (h : H p = none) : Same H (upd H p o) := fun b x e => by
  rw [upd_ne (ne_of_none e h)]
  exact e
theorem Rel.fresh (r : Rel K Z Y H σ s) {p : Addr} (h : H p = none) : Z p = none := r.zh.free h
/-- a new slot behind the others, of new things -/
theorem Rel.pushE (r : Rel K Z Y H σ s) {v : Option V} {sv : SV} {F : List Addr} (hh : Same H H') (hz : Same Z Z') (zh : Same Z' H') (new : ∀ a, H a ≠ none → Z' a = Z a ∨ ∃ vs, H a = some (.tup vs)) (h : SlotAt K Z' H' v sv F) (nd : F.Nodup)
    (fr : ∀ a ∈ F, H a = none ∧ Z' a = none) : Rel K Z' Y H' (σ ++ [v]) (s ++ [sv]) := by
  obtain ⟨G, o⟩ := r.own
  have g := r.growE hh hz zh new
  have hd : ∀ i, ∀ a ∈ F, a ∉ G i := fun i a ha hg => (o.at_ i).there a hg (fr a ha).1
  have o' : OwnF K Z' Y H' σ s G := ⟨fun i => (o.at_ i).mono hz fun a _ ob e => hh a ob e, o.nd, o.dj, fun i a ha => by
    rcases new a ((o.at_ i).there a ha) with h | ⟨vs, h⟩
    · rw [h]
      exact o.fr i a ha
    · exact absurd h ((o.at_ i).nt a ha vs)⟩
  refine ⟨zh, g.yh, g.zy, g.yt, by rw [List.length_append, List.length_append, r.len]; rfl, fun i => if i = σ.length then F else G i, fun i => ?_, fun i => ?_, fun i j a ha ha' => ?_, fun i a ha => ?_⟩
  · by_cases hi : i = σ.length
    · rw [if_pos hi, getD_app_ge (by omega), getD_app_ge (by have := r.len; omega), hi, Nat.sub_self, ← r.len, Nat.sub_self]
      exact h
    · rw [if_neg hi]
      have q := o'.at_ i
      by_cases hlt : i < σ.length
      · rw [getD_app_lt hlt, getD_app_lt (by have := r.len; omega)]
        exact q
      · rw [getD_out (l := s ++ [sv]) (by rw [List.length_append]; have := r.len; show s.length + 1 ≤ i; omega)]
        rw [getD_out (l := s) (by have := r.len; omega)] at q
        exact q
  · by_cases hi : i = σ.length
    · rw [if_pos hi]; exact nd
    · rw [if_neg hi]; exact o'.nd i
  · by_cases hi : i = σ.length
    · rw [if_pos hi] at ha
      by_cases hj : j = σ.length
      · rw [hi, hj]
      · rw [if_neg hj] at ha'; exact (hd j a ha ha').elim
    · rw [if_neg hi] at ha
      by_cases hj : j = σ.length
      · rw [if_pos hj] at ha'; exact (hd i a ha' ha).elim
      · rw [if_neg hj] at ha'; exact o'.dj i j a ha ha'
  · by_cases hi : i = σ.length
    · rw [if_pos hi] at ha
      refine ⟨(fr a ha).2, ?_⟩
      cases e : Y a with
      | none => rfl
      | some q => exact absurd (fr a ha).1 (by rw [r.yh a q e]; exact fun z => nomatch z)
    · rw [if_neg hi] at ha; exact o'.fr i a ha
theorem Rel.push (r : Rel K Z Y H σ s) {v : Option V} {sv : SV} {F : List Addr} (hh : Same H H') (hz : Same Z Z') (zh : Same Z' H') (new : ∀ a, H a ≠ none → Z' a = Z a) (h : SlotAt K Z' H' v sv F) (nd : F.Nodup)
    (fr : ∀ a ∈ F, H a = none ∧ Z' a = none) : Rel K Z' Y H' (σ ++ [v]) (s ++ [sv]) := r.pushE hh hz zh (fun a h => .inl (new a h)) h nd fr
theorem Rel.push0 (r : Rel K Z Y H σ s) {v : Option V} {sv : SV} (h : SlotAt K Z H v sv []) : Rel K Z Y H (σ ++ [v]) (s ++ [sv]) :=
  r.push (Same.refl _) (Same.refl _) r.zh (fun _ _ => rfl) h .nil (fun a ha => nomatch ha)
theorem Rel.pushD (r : Rel K Z Y H σ s) {v : V} {x : D} (h : Rp K Z v x) : Rel K Z Y H (σ ++ [some v]) (s ++ [.d x]) := r.push0 ⟨rfl, v, rfl, h⟩
theorem Rel.pushN (r : Rel K Z Y H σ s) {v : Option V} : Rel K Z Y H (σ ++ [v]) (s ++ [.no]) := r.push0 rfl
/-- a new list -/
theorem Rel.newL (r : Rel K Z Y H σ s) {p : Addr} {vs : List V} {xs : List D} (h : H p = none) (hz : vs.length ≤ sizeLine) (a : RpAll K Z vs xs) : Rel K Z Y (upd H p (.lst vs)) (σ ++ [some (.ref p)]) (s ++ [.l xs]) :=
  r.push (F := [p]) (same_upd h) (Same.refl _) (r.zh.trans (same_upd h)) (fun _ _ => rfl) ⟨p, vs, rfl, rfl, upd_same, hz, a⟩ (by simp) fun a ha => by
    obtain rfl : a = p := by simpa using ha
    exact ⟨h, r.fresh h⟩
/-- a new dict -/
theorem Rel.newDc (r : Rel K Z Y H σ s) {p : Addr} {o : HO} {kvs : List (D × D)} (h : H p = none) (a : DcAt K Z (upd H p o) p kvs) : Rel K Z Y (upd H p o) (σ ++ [some (.ref p)]) (s ++ [.dc kvs]) :=
  r.push (F := [p]) (same_upd h) (Same.refl _) (r.zh.trans (same_upd h)) (fun _ _ => rfl) ⟨p, rfl, rfl, a⟩ (by simp) fun a ha => by
    obtain rfl : a = p := by simpa using ha
    exact ⟨h, r.fresh h⟩
/-- what a slot alone holds: nobody else speaks of it -/
theorem OwnF.lone {F : Nat → List Addr} (o : OwnF K Z Y H σ s F) {i j : Nat} {a : Addr} (h : a ∈ F i) (hj : j ≠ i) : a ∉ F j := fun h' => hj (o.dj j i a h' h)
/-- a slot's list is written -/
theorem Rel.write (r : Rel K Z Y H σ s) {i : Nat} {p : Addr} {vs' : List V} {xs xs' : List D} (hs : s.getD i .no = .l xs) (hv : σ.getD i none = some (.ref p)) (hz : vs'.length ≤ sizeLine) (a : RpAll K Z vs' xs') :
    Rel K Z Y (upd H p (.lst vs')) σ (s.set i (.l xs')) := by
  obtain ⟨F, o⟩ := r.own
  have q := o.at_ i
  rw [hs, hv] at q
  obtain ⟨p', vs, h1, h2, h3, h4, h5⟩ := q
  cases h1
  have hi : i < s.length := by
    by_cases h : i < s.length
    · exact h
    · rw [getD_out (by omega)] at hs; cases hs
  have pf := o.fr i p (by rw [h2]; exact List.mem_cons_self)
  refine ⟨fun b x e => ?_, fun b x e => ?_, r.zy, r.yt, by rw [List.length_set]; exact r.len, F, fun j => ?_, o.nd, o.dj, o.fr⟩
  · rw [upd_ne (fun z => by rw [z, pf.1] at e; cases e)]; exact r.zh b x e
  · rw [upd_ne (fun z => by rw [z, pf.2] at e; cases e)]; exact r.yh b x e
  · by_cases hj : i = j
    · subst hj
      rw [getD_set_self hi, hv, h2]
      exact ⟨p, vs', rfl, rfl, upd_same, hz, a⟩
    · rw [getD_set_ne hj]
      refine (o.at_ j).mono (Same.refl _) fun b hb ob e => ?_
      rw [upd_ne]
      · exact e
      · rintro rfl
        exact hj (o.dj i j b (by rw [h2]; exact List.mem_cons_self) hb)
/-- a slot's dict is written -/
theorem Rel.writeDc (r : Rel K Z Y H σ s) {i : Nat} {p : Addr} {ob : HO} {kvs kvs' : List (D × D)} (hs : s.getD i .no = .dc kvs) (hv : σ.getD i none = some (.ref p)) (a : DcAt K Z (upd H p ob) p kvs') :
    Rel K Z Y (upd H p ob) σ (s.set i (.dc kvs')) := by
  obtain ⟨F, o⟩ := r.own
  have q := o.at_ i
  rw [hs, hv] at q
  obtain ⟨p', h1, h2, h3⟩ := q
  cases h1
  have hi : i < s.length := by
    by_cases h : i < s.length
    · exact h
    · rw [getD_out (by omega)] at hs; cases hs
  have pf := o.fr i p (by rw [h2]; exact List.mem_cons_self)
  refine ⟨fun b x e => ?_, fun b x e => ?_, r.zy, r.yt, by rw [List.length_set]; exact r.len, F, fun j => ?_, o.nd, o.dj, o.fr⟩
  · rw [upd_ne (fun z => by rw [z, pf.1] at e; cases e)]; exact r.zh b x e
  · rw [upd_ne (fun z => by rw [z, pf.2] at e; cases e)]; exact r.yh b x e
  · by_cases hj : i = j
    · subst hj
      rw [getD_set_self hi, hv, h2]
      exact ⟨p, rfl, rfl, a⟩
    · rw [getD_set_ne hj]
      refine (o.at_ j).mono (Same.refl _) fun b hb oo e => ?_
      rw [upd_ne]
      · exact e
      · rintro rfl
        exact hj (o.dj i j b (by rw [h2]; exact List.mem_cons_self) hb)
/-- what a slot's content is as a value -/
def asD : SV → Option D
  | .d x => some x
  | .l xs => some (.list xs)
  | .ll xss => some (.list (xss.map .list))
  | .dc kvs => some (.dict kvs)
  | .tp ws => some (.tuple (ws.map PV.asD))
  | .ob c fs => some (obD c (fs.map fun p => (.str p.1, p.2.asD)))
  | .no => none
  | .lo _ => none
theorem DcAt.rp {p : Addr} {kvs : List (D × D)} (h : DcAt K Z H p kvs) (e : Same Z H) : Rp K H (.ref p) (.dict kvs) := by
  rcases h with ⟨ks, e1, r⟩ | ⟨ks, kvs', e0, e1, r⟩
  · exact .dcK (.inl e1) (r.same e)
  · rw [e0]; exact .dcT (.inl e1) (r.same e)
mutual
theorem PartAt.rp0 (e : Same Z H) : ∀ (w : PV) {v : V} {F : List Addr}, PartAt K Z H v w F → Rp K H v w.asD
  | .d x, _, _, h => h.2.same e
  | .l xs, _, _, h => by
    obtain ⟨p, vs, h1, h2, h3, h4, h5⟩ := h
    rw [h1]
    exact .lst (.inl h3) h4 (h5.same e)
  | .dc kvs, _, _, h => by
    obtain ⟨p, h1, h2, h3⟩ := h
    rw [h1]
    exact h3.rp e
  | .o c fs, _, _, h => by
    obtain ⟨p, dx, vs, G, h1, h2, h3, h4, h5⟩ := h
    rw [h1]
    exact .obj h3 h4 (PsAt.rp0 e fs h5)
theorem PsAt.rp0 (e : Same Z H) : ∀ (fs : List (Str × PV)) {vs : List V} {F : List Addr}, PsAt K Z H vs fs F → RpK K H (obK ((fs.map (·.1)).zip vs)) (PV.asDs fs)
  | [], [], _, h => .nil
  | (n, w) :: fs, v :: vs, _, h => by
    obtain ⟨F1, F2, e1, h1, h2⟩ := h
    exact .cons (k := .inr n) (PartAt.rp0 e w h1) (PsAt.rp0 e fs h2)
  | [], _ :: _, _, h => h.elim
  | _ :: _, [], _, h => h.elim
end
theorem PartAt.rp {v : V} {w : PV} {F : List Addr} (h : PartAt K Z H v w F) (e : Same Z H) : Rp K H v w.asD := PartAt.rp0 e w h
theorem TpAt.all {vs : List V} {ws : List PV} {F : List Addr} (h : TpAt K Z H vs ws F) (e : Same Z H) : RpAll K H vs (ws.map PV.asD) := by
  induction h with
  | nil => exact .nil
  | cons h r ih => exact .cons (h.rp e) ih
theorem TpAt.keys (e : Same Z H) : ∀ {fs : List (Str × PV)} {vs : List V} {F : List Addr}, TpAt K Z H vs (fs.map (·.2)) F → RpK K H (obK ((fs.map (·.1)).zip vs)) (fs.map fun p => (.str p.1, p.2.asD))
  | [], _, _, .nil => .nil
  | (n, w) :: fs, _, _, .cons h r => .cons (k := .inr n) (h.rp e) (TpAt.keys e r)
theorem LL.all : ∀ {qs : List Addr} {xss : List (List D)}, LL K Z H qs xss → Same Z H → RpAll K H (qs.map V.ref) (xss.map .list)
  | _, _, .nil, _ => .nil
  | _, _, .cons h z a r, e => .cons (.lst (.inl h) z (a.same e)) (LL.all r e)
theorem SlotAt.asD {v : Option V} {sv : SV} {F : List Addr} {x : D} (h : SlotAt K Z H v sv F) (e : Same Z H) (ha : asD sv = some x) : ∃ u, v = some u ∧ Rp K H u x := by
  cases sv with
  | no => cases ha
  | lo ws => cases ha
  | d y =>
    cases ha
    obtain ⟨_, u, h2, r⟩ := h
    exact ⟨u, h2, r.same e⟩
  | l xs =>
    cases ha
    obtain ⟨p, vs, h1, h2, h3, h4, h5⟩ := h
    exact ⟨_, h1, .lst (.inl h3) h4 (h5.same e)⟩
  | ll xss =>
    cases ha
    obtain ⟨p, qs, h1, h2, h3, h4, h5⟩ := h
    exact ⟨_, h1, .lst (.inl h3) (by rw [List.length_map]; exact h4) (h5.all e)⟩
  | dc kvs =>
    cases ha
    obtain ⟨p, h1, h2, h3⟩ := h
    exact ⟨_, h1, h3.rp e⟩
  | ob c fs =>
    cases ha
    obtain ⟨p, dx, vs, G, h1, h2, h3, h4, h5⟩ := h
    exact ⟨_, h1, .obj h3 h4 (h5.keys e)⟩
  | tp ws =>
    cases ha
    obtain ⟨p, vs, h1, h3, h4, h5⟩ := h
    exact ⟨_, h1, .tup (e _ _ h3) h4 (h5.all e)⟩
/-- nobody changes any more what a slot held alone -/
theorem Rel.freeze (r : Rel K Z Y H σ s) {i : Nat} {x : D} (ha : Hs.asD (s.getD i .no) = some x) :
    ∃ Z', Same Z Z' ∧ Rel K Z' Y H σ (s.set i (.d x)) := by
  classical
  obtain ⟨F, o⟩ := r.own
  have hi : i < s.length := by
    by_cases h : i < s.length
    · exact h
    · rw [getD_out (by omega)] at ha; cases ha
  let Z' : Hp := fun a => if a ∈ F i then H a else Z a
  have hz : Same Z Z' := fun a q e => by
    show (if _ then _ else _) = _
    rw [if_neg (fun h => by rw [(o.fr i a h).1] at e; cases e)]
    exact e
  have zh : Same Z' H := fun a q e => by
    have e : (if a ∈ F i then H a else Z a) = some q := e
    split at e
    · exact e
    · exact r.zh a q e
  refine ⟨Z', hz, zh, r.yh, fun a ha => ?_, r.yt, by rw [List.length_set]; exact r.len, fun j => if j = i then [] else F j, fun j => ?_, fun j => ?_, fun j k a ha ha' => ?_, fun j a ha => ?_⟩
  · have e : (if a ∈ F i then H a else Z a) ≠ none := ha
    split at e
    · exact (o.fr i a (by assumption)).2
    · exact r.zy a e
  · by_cases hj : j = i
    · subst hj
      rw [if_pos rfl, getD_set_self hi]
      -- within Z' alone
      have q := o.at_ j
      have q' : SlotAt K Z' Z' (σ.getD j none) (s.getD j .no) (F j) := q.mono hz fun a ha ob e => by
        show (if _ then _ else _) = _
        rw [if_pos ha]; exact e
      obtain ⟨u, h1, h2⟩ := q'.asD (Same.refl _) ha
      exact ⟨rfl, u, h1, h2⟩
    · rw [if_neg hj, getD_set_ne (Ne.symm hj)]
      exact (o.at_ j).mono hz fun a _ ob e => e
  · by_cases hj : j = i
    · rw [if_pos hj]; exact .nil
    · rw [if_neg hj]; exact o.nd j
  · by_cases hj : j = i
    · rw [if_pos hj] at ha; cases ha
    · rw [if_neg hj] at ha
      by_cases hk : k = i
      · rw [if_pos hk] at ha'; cases ha'
      · rw [if_neg hk] at ha'; exact o.dj j k a ha ha'
  · by_cases hj : j = i
    · rw [if_pos hj] at ha; cases ha
    · rw [if_neg hj] at ha
      refine ⟨?_, (o.fr j a ha).2⟩
      show (if _ then _ else _) = _
      rw [if_neg (o.lone ha (Ne.symm hj))]
      exact (o.fr j a ha).1
end
end Hs
namespace Hs
open PySem
abbrev XF := Str → S → Prop
abbrev FE := XF → S → (R → S → Prop) → Prop
abbrev FT := XF → S → (Bool → S → Prop) → Prop
abbrev FA := XF → S → (List R → S → Prop) → Prop
abbrev FO := XF → S → (Option Int → S → Prop) → Prop
structure FEnds where
  nx : S → Prop
  rt : R → S → Prop
  bk : S → Prop := fun _ => False
  ct : S → Prop := fun _ => False
  xx : XF
abbrev FS := FEnds → S → Prop
abbrev FG := D → S → (S → Prop) → Prop
abbrev FI := XF → S → (List D → S → Prop) → Prop
/-- a def: its arguments' slots; what is wanted of an error and of an answer, with the arguments' slots as they end -/
abbrev FSem := List SV → XF → (R → S → Prop) → Prop
abbrev V1 := D → (R → Prop) → Prop
abbrev V2 := D → D → (R → Prop) → Prop
abbrev VN := List D → (R → Prop) → Prop
def svR : R → SV
  | .d x => .d x
  | .own v => v
  | .top _ => .no
/-- a slot's content as a value that may be looked at -/
def viewS : SV → Option D
  | .d x => some x
  | .l xs => some (.list xs)
  | .dc kvs => some (.dict kvs)
  | _ => none
def viewR (s : S) : R → Option D
  | .d x => some x
  | .own v => viewS v
  | .top i => viewS (s.getD i .no)
def look (s : S) (r : R) (k : D → Prop) : Prop :=
  match viewR s r with
  | some d => k d
  | none => False
/-- .. that nobody changes from now on -/
def frz (r : R) (s : S) (k : D → S → Prop) : Prop :=
  match r with
  | .d x => k x s
  | .own v => match asD v with
    | some x => k x s
    | none => False
  | .top i => match asD (s.getD i .no) with
    | some x => k x (s.set i (.d x))
    | none => False
def frzAll : List R → S → (List D → S → Prop) → Prop
  | [], s, k => k [] s
  | r :: rs, s, k => frz r s fun x s1 => frzAll rs s1 fun xs s2 => k (x :: xs) s2
def fVar (i : Nat) : FE := fun _ s Q =>
  match s.getD i .no with
  | .no => False
  | .d x => Q (.d x) s
  | _ => Q (.top i) s
def fC (x : D) : FE := fun _ s Q => Q (.d x) s
def fNil : FA := fun _ s Q => Q [] s
def fCons (a : FE) (r : FA) : FA := fun X s Q => a X s fun x s1 => r X s1 fun xs s2 => Q (x :: xs) s2
def fTup (a : FA) : FE := fun X s Q => a X s fun rs s1 => frzAll rs s1 fun ds s2 => Q (.d (.tuple ds)) s2
def fLst (a : FA) : FE := fun X s Q => a X s fun rs s1 => frzAll rs s1 fun ds s2 => Q (.own (.l ds)) s2
def fOp (g : V2) (a b : FE) : FE := fun X s Q => a X s fun r1 s1 => b X s1 fun r2 s2 => look s2 r1 fun d => look s2 r2 fun e => g d e fun r => Q r s2
def fUn (g : V1) (a : FE) : FE := fun X s Q => a X s fun r1 s1 => look s1 r1 fun d => g d fun r => Q r s1
/-- a built-in called with values that it looks at -/
def fBlt (g : VN) (a : FA) : FE := fun X s Q => a X s fun rs s1 => lookAll s1 rs fun ds => g ds fun r => Q r s1
where lookAll (s : S) : List R → (List D → Prop) → Prop
  | [], k => k []
  | r :: rs, k => look s r fun d => lookAll s rs fun ds => k (d :: ds)
def isB (r : R) (k : Bool → Prop) : Prop :=
  match r with
  | .d (.bool b) => k b
  | _ => False
def fAndV (a b : FE) : FE := fun X s Q => a X s fun r s1 => isB r fun c => if c = true then b X s1 Q else Q (.d (.bool false)) s1
def fOrV (a b : FE) : FE := fun X s Q => a X s fun r s1 => isB r fun c => if c = true then Q (.d (.bool true)) s1 else b X s1 Q
def fNotV (a : FE) : FE := fun X s Q => a X s fun r s1 => isB r fun c => Q (.d (.bool (!c))) s1
def fIfE (t : FT) (a b : FE) : FE := fun X s Q => t X s fun c s1 => if c = true then a X s1 Q else b X s1 Q
/-- a < b < c -/
def fChain (g g' : V2) (a b c : FE) : FE := fun X s Q => a X s fun r1 s1 => b X s1 fun r2 s2 => look s2 r1 fun d => look s2 r2 fun e => g d e fun r => isB r fun k =>
  if k = true then c X s2 fun r3 s3 => look s3 r2 fun e' => look s3 r3 fun h => g' e' h fun z => Q z s3 else Q (.d (.bool false)) s2
def fNoPart : FO := fun _ s Q => Q none s
def fPart (a : FE) : FO := fun X s Q => a X s fun r s1 => match r with
  | .d (.int i) => Q (some i) s1
  | _ => False
def fSl (g : D → Option Int → Option Int → (R → Prop) → Prop) (a : FE) (lo hi : FO) : FE := fun X s Q => a X s fun r s1 => lo X s1 fun l s2 => hi X s2 fun h s3 => look s3 r fun d => g d l h fun z => Q z s3
def fB (a : FE) : FT := fun X s Q => a X s fun r s1 => isB r fun c => Q c s1
def fAnd (t u : FT) : FT := fun X s Q => t X s fun c s1 => if c = true then u X s1 Q else Q false s1
def fOr (t u : FT) : FT := fun X s Q => t X s fun c s1 => if c = true then Q true s1 else u X s1 Q
def fNot (t : FT) : FT := fun X s Q => t X s fun c s1 => Q (!c) s1
def fYes : FT := fun _ s Q => Q true s
def bindA : List Bool → List R → S → (List SV → S → Prop) → Prop
  | [], [], s, k => k [] s
  | false :: ms, r :: rs, s, k => frz r s fun x s1 => bindA ms rs s1 fun svs s2 => k (.d x :: svs) s2
  | true :: ms, .top i :: rs, s, k => bindA ms rs (s.set i .no) fun svs s2 => k (s.getD i .no :: svs) s2
  | true :: ms, .d x :: rs, s, k => bindA ms rs s fun svs s2 => k (.d x :: svs) s2
  | true :: ms, .own v :: rs, s, k => bindA ms rs s fun svs s2 => k (v :: svs) s2
  | _, _, _, _ => False
/-- what the slots that were lent hold behind the call -/
def putB : List Bool → List R → S → S → S
  | true :: ms, .top i :: rs, f :: fin, s => putB ms rs fin (s.set i f)
  | _ :: ms, _ :: rs, _ :: fin, s => putB ms rs fin s
  | _, _, _, s => s
def fCall (sem : FSem) (ms : List Bool) (a : FA) : FE := fun X s Q => a X s fun rs s1 => bindA ms rs s1 fun svs s2 => sem svs (fun n fin => X n (putB ms rs fin s2)) fun r fin => Q r (putB ms rs fin s2)
def wipeS (s : S) : List Nat → S
  | [] => s
  | i :: is => wipeS (s.set i .no) is
def fComp (X : XF) (g : FG) (wp : List Nat) (t : FT) (e : FE) (Q : R → S → Prop) : List D → List D → S → Prop
  | [], acc, s => Q (.own (.l acc)) s
  | x :: xs, acc, s => g x s fun s1 => t X s1 fun b s2 => if b = true then e X s2 fun r s3 => frz r s3 fun d s4 => fComp X g wp t e Q xs (acc ++ [d]) (wipeS s4 wp) else fComp X g wp t e Q xs acc (wipeS s2 wp)
def fLc (it : FI) (g : FG) (wp : List Nat) (t : FT) (e : FE) : FE := fun X s Q => it X s fun xs s1 => xs.length ≤ sizeLine ∧ fComp (fun _ _ => False) g wp t e Q xs [] (wipeS s1 wp)
def iSeq (a : FE) : FI := fun X s Q => a X s fun r s1 => frz r s1 fun d s2 => match d with
  | .list xs => Q xs s2
  | .tuple xs => Q xs s2
  | _ => False
def lim62 (i : Int) : Prop := -(2 ^ 62) ≤ i ∧ i < 2 ^ 62
def rangeD (lo : Int) (n : Nat) : List D := (List.range n).map fun (k : Nat) => PyData.int (lo + (k : Int))
def iRange1 (a : FA) : FI := fun X s Q => a X s fun rs s1 => match rs with
  | [.d (.int j)] => lim62 j ∧ Q (rangeD 0 j.toNat) s1
  | _ => False
def iRange2 (a : FA) : FI := fun X s Q => a X s fun rs s2 => match rs with
  | [.d (.int i), .d (.int j)] => lim62 i ∧ lim62 j ∧ Q (rangeD i (j - i).toNat) s2
  | _ => False
def enumD (xs : List D) : List D := xs.zipIdx.map fun p => .tuple [.int (p.2 : Nat), p.1]
def iEnum (a : FA) : FI := fun X s Q => a X s fun rs s1 => frzAll rs s1 fun ds s2 => match ds with
  | [.list xs] => Q (enumD xs) s2
  | [.tuple xs] => Q (enumD xs) s2
  | _ => False
def zipD (xs ys : List D) : List D := List.zipWith (fun x y => .tuple [x, y]) xs ys
def iZip (a : FA) : FI := fun X s Q => a X s fun rs s1 => frzAll rs s1 fun ds s4 => match ds with
  | [.list xs, .list ys] => Q (zipD xs ys) s4
  | [.tuple xs, .list ys] => Q (zipD xs ys) s4
  | [.list xs, .tuple ys] => Q (zipD xs ys) s4
  | [.tuple xs, .tuple ys] => Q (zipD xs ys) s4
  | _ => False
def gNm (i : Nat) : FG := fun d s k => k (s.set i (.d d))
def gTp : List FG → FG := fun gs d s k => match d with
  | .tuple xs => gTps gs xs s k
  | _ => False
where gTps : List FG → List D → S → (S → Prop) → Prop
  | [], [], s, k => k s
  | g :: gs, x :: xs, s, k => g x s fun s1 => gTps gs xs s1 k
  | _, _, _, _ => False
def fNext : FS := fun E s => E.nx s
def fSeq (a b : FS) : FS := fun E s => a { E with nx := fun s1 => b E s1 } s
def fIfS (t : FT) (a b : FS) : FS := fun E s => t E.xx s fun c s1 => if c = true then a E s1 else b E s1
def fRet (a : FE) : FS := fun E s => a E.xx s E.rt
def fRetN : FS := fun E s => E.rt (.d .none) s
def fBreak : FS := fun E s => E.bk s
def fDrop (a : FE) : FS := fun E s => a E.xx s fun _ s1 => E.nx s1
def fRaise (n : Str) : FS := fun E s => E.xx n s
def putR (i : Nat) (r : R) (s : S) (k : S → Prop) : Prop :=
  match r with
  | .d x => k (s.set i (.d x))
  | .own v => k (s.set i v)
  | .top j => match asD (s.getD j .no) with
    | some x => k ((s.set j (.d x)).set i (.d x))
    | none => False
def fAsg (i : Nat) (a : FE) : FS := fun E s => a E.xx s fun r s1 => putR i r s1 E.nx
/-- a, b = e -/
def fUnp (g : FG) (a : FE) : FS := fun E s => a E.xx s fun r s1 => frz r s1 fun d s2 => g d s2 E.nx
/-- a, b = e1, e2 -/
def fPar (i j : Nat) (a : FA) : FS := fun E s => a E.xx s fun rs s2 => match rs with
  | [r1, r2] => frz r1 s2 fun d1 s3 => frz r2 s3 fun d2 s4 => E.nx ((s4.set i (.d d1)).set j (.d d2))
  | _ => False
def fLoop (g : FG) (wp : List Nat) (b : FS) (E : FEnds) : List D → S → Prop
  | [], s => E.nx s
  | x :: xs, s => g x s fun s1 => b { E with nx := fun s2 => fLoop g wp b E xs (wipeS s2 wp), ct := fun s2 => fLoop g wp b E xs (wipeS s2 wp), bk := fun s2 => E.nx (wipeS s2 wp) } s1
def fFor (it : FI) (g : FG) (wp : List Nat) (b : FS) : FS := fun E s => it E.xx s fun xs s1 => fLoop g wp b E xs (wipeS s1 wp)
def fWhileN (wp : List Nat) (t : FT) (b : FS) (E : FEnds) : Nat → S → Prop
  | 0, _ => False
  | n + 1, s => t E.xx s fun c s1 => if c = true then b { E with nx := fun s2 => fWhileN wp t b E n (wipeS s2 wp), ct := fun s2 => fWhileN wp t b E n (wipeS s2 wp), bk := fun s2 => E.nx (wipeS s2 wp) } s1 else E.nx s1
def fWhile (wp : List Nat) (t : FT) (b : FS) : FS := fun E s => ∃ n, fWhileN wp t b E n (wipeS s wp)
/-- a list of a slot's own, changed by a method -/
def onL (i : Nat) (s : S) (k : List D → Prop) : Prop :=
  match s.getD i .no with
  | .l xs => k xs
  | _ => False
abbrev LM := List D → List D → (D → List D → Prop) → Prop
/-- a method of a slot's own list: what it gives, what the list holds behind it -/
def fLm (i : Nat) (g : LM) (a : FA) : FE := fun X s Q => onL i s fun _ => a X s fun rs s1 => frzAll rs s1 fun ds s2 => onL i s2 fun xs => g xs ds fun d xs' => Q (.d d) (s2.set i (.l xs'))
def mAppend : LM := fun xs ds k => match ds with
  | [d] => xs.length < sizeLine ∧ k .none (xs ++ [d])
  | _ => False
/-- xs[j] = e -/
def fSetIx (i : Nat) (j a : FE) : FS := fun E s => a E.xx s fun r s1 => onL i s1 fun _ => j E.xx s1 fun rj s2 => match rj with
  | .d (.int k) => frz r s2 fun d s3 => onL i s3 fun xs => 0 ≤ k ∧ k.toNat < xs.length ∧ E.nx (s3.set i (.l (xs.set k.toNat d)))
  | _ => False
def outR (r : R) (s : S) (k : R → S → Prop) : Prop :=
  match r with
  | .d x => k (.d x) s
  | .own v => k (.own v) s
  | .top i => k (.own (s.getD i .no)) (s.set i .no)
def semOf (np nl : Nat) (b : FS) : FSem := fun svs X Q => b { nx := fun s => Q (.d .none) (s.take np), rt := fun r s => outR r s fun r' s' => Q r' (s'.take np), xx := fun n s => X n (s.take np) } (svs ++ List.replicate (nl - np) .no)
end Hs
namespace Hs
open PySem PySem.Spec PyProof.Rows L2
section
variable {K : PySem.W.Frag} {Z Z' Y Y' H H' : Hp} {σ σ' : St} {s s' : S}
theorem Rel.take {ts : St} {us : S} (r : Rel K Z Y H (σ ++ ts) (s ++ us)) (hl : σ.length = s.length) : Rel K Z Y H σ s :=
  r.re (fun k => if k < σ.length then some k else none) hl (fun k => by
    by_cases h : k < σ.length
    · simp only [if_pos h]
      exact ⟨(getD_app_lt (by omega)).symm, (getD_app_lt h).symm⟩
    · simp only [if_neg h]
      exact .inl (getD_out (by omega))) (fun k k' j h h' => by
    by_cases a : k < σ.length
    · by_cases b : k' < σ.length
      · rw [if_pos a] at h; rw [if_pos b] at h'; cases h; cases h'; rfl
      · rw [if_neg b] at h'; cases h'
    · rw [if_neg a] at h; cases h)
theorem Rel.swap {σa σb σc : St} {sa sb sc : S} (r : Rel K Z Y H (σa ++ σb ++ σc) (sa ++ sb ++ sc)) (ha : σa.length = sa.length) (hb : σb.length = sb.length) : Rel K Z Y H (σa ++ σc ++ σb) (sa ++ sc ++ sb) := by
  have hl := r.len
  simp only [List.length_append] at hl
  refine r.re (fun k => if k < σa.length then some k else if k < σa.length + σc.length then some (k + σb.length) else if k < σa.length + σc.length + σb.length then some (k - σc.length) else none)
    (by simp only [List.length_append]; omega) (fun k => ?_) fun k k' j h h' => ?_
  · by_cases h1 : k < σa.length
    · simp only [if_pos h1]
      refine ⟨?_, ?_⟩
      · rw [List.append_assoc, List.append_assoc, getD_app_lt (by omega), getD_app_lt (by omega)]
      · rw [List.append_assoc, List.append_assoc, getD_app_lt h1, getD_app_lt h1]
    · simp only [if_neg h1]
      by_cases h2 : k < σa.length + σc.length
      · simp only [if_pos h2]
        refine ⟨?_, ?_⟩
        · rw [getD_app_lt (l := sa ++ sc) (by rw [List.length_append]; omega), getD_app_ge (by omega), getD_app_ge (by rw [List.length_append]; omega), List.length_append]
          congr 1; omega
        · rw [getD_app_lt (l := σa ++ σc) (by rw [List.length_append]; omega), getD_app_ge (by omega), getD_app_ge (by rw [List.length_append]; omega), List.length_append]
          congr 1; omega
      · simp only [if_neg h2]
        by_cases h3 : k < σa.length + σc.length + σb.length
        · simp only [if_pos h3]
          refine ⟨?_, ?_⟩
          · rw [getD_app_ge (l := sa ++ sc) (by rw [List.length_append]; omega), List.append_assoc sa sb sc, getD_app_ge (l := sa) (by omega), getD_app_lt (l := sb) (by omega), List.length_append]
            congr 1; omega
          · rw [getD_app_ge (l := σa ++ σc) (by rw [List.length_append]; omega), List.append_assoc σa σb σc, getD_app_ge (l := σa) (by omega), getD_app_lt (l := σb) (by omega), List.length_append]
            congr 1; omega
        · simp only [if_neg h3]
          exact .inl (getD_out (by simp only [List.length_append]; omega))
  · split at h <;> split at h' <;> (try split at h) <;> (try split at h') <;> (try split at h) <;> (try split at h') <;> (try cases h) <;> (try injection h with h) <;> (try injection h' with h') <;> (try omega) <;> (try cases h')
    all_goals omega
def Tops (σ : St) (vs : List V) (rs : List R) : Prop := ∀ (k i : Nat), rs[k]? = some (R.top i) → i < σ.length ∧ σ.getD i none = vs[k]?
structure RelX (K : PySem.W.Frag) (Z Y H : Hp) (σ : St) (s : S) (vs : List V) (rs : List R) : Prop where
  rel : Rel K Z Y H (σ ++ vs.map some) (s ++ rs.map svR)
  l1 : σ.length = s.length
  l2 : vs.length = rs.length
  top : Tops σ vs rs
theorem RelX.rel0 {vs : List V} {rs : List R} (r : RelX K Z Y H σ s vs rs) : Rel K Z Y H σ s := r.rel.take r.l1
theorem RelX.nil (r : Rel K Z Y H σ s) : RelX K Z Y H σ s [] [] := ⟨by simpa using r, r.len, rfl, fun k i h => by simp at h⟩
theorem Tops.one {v : V} {r : R} (h : ∀ i, r = .top i → i < σ.length ∧ σ.getD i none = some v) : Tops σ [v] [r] := fun k i e => by
  cases k with
  | zero => exact h i (by simpa using e)
  | succ k => simp at e
theorem RelX.d (r : Rel K Z Y H σ s) {v : V} {x : D} (h : Rp K Z v x) : RelX K Z Y H σ s [v] [.d x] :=
  ⟨r.pushD h, r.len, rfl, .one fun i e => nomatch e⟩
theorem RelX.tp (r : Rel K Z Y H σ s) {v : V} {i : Nat} (hi : i < σ.length) (h : σ.getD i none = some v) : RelX K Z Y H σ s [v] [.top i] :=
  ⟨r.pushN, r.len, rfl, .one fun j e => by cases e; exact ⟨hi, h⟩⟩
theorem RelX.own {v : V} {w : SV} (hl : σ.length = s.length) (r : Rel K Z Y H (σ ++ [some v]) (s ++ [w])) : RelX K Z Y H σ s [v] [.own w] :=
  ⟨r, hl, rfl, .one fun i e => nomatch e⟩
/-- results put aside while others come -/
theorem RelX.frame {vs : List V} {rs : List R} (r : RelX K Z Y H σ s vs rs) :
    ∃ Y', Same Y Y' ∧ Rel K Z Y' H σ s ∧ (∀ Z1 H1 σ1 s1, Same Z Z1 → Rel K Z1 Y' H1 σ1 s1 → Rel K Z1 Y H1 σ1 s1) ∧
      (∀ Z1 H1 s1 ws qs, Same Z Z1 → RelX K Z1 Y' H1 σ s1 ws qs → RelX K Z1 Y H1 σ s1 (vs ++ ws) (rs ++ qs)) := by
  obtain ⟨Y', hy, r1, back, _⟩ := r.rel.frame r.l1
  refine ⟨Y', hy, r1, fun Z1 H1 σ1 s1 hz q => (back Z1 H1 σ1 s1 hz q).take q.len, fun Z1 H1 s1 ws qs hz q => ?_⟩
  have b := back Z1 H1 _ _ hz q.rel
  refine ⟨?_, q.l1, by rw [List.length_append, List.length_append, r.l2, q.l2], fun k i e => ?_⟩
  · rw [List.map_append, List.map_append, ← List.append_assoc, ← List.append_assoc]
    exact b.swap q.l1 (by rw [List.length_map, List.length_map]; exact q.l2)
  · by_cases hk : k < rs.length
    · rw [List.getElem?_append_left hk] at e
      rw [List.getElem?_append_left (by rw [r.l2]; exact hk)]
      exact r.top k i e
    · rw [List.getElem?_append_right (by omega)] at e
      rw [List.getElem?_append_right (by rw [r.l2]; omega), r.l2]
      exact q.top _ i e
/-- a thing looked at: its own items stand in Z -/
def RpV (K : PySem.W.Frag) (Z H : Hp) (v : V) (d : D) : Prop :=
  Rp K Z v d ∨ (∃ p vs xs, v = .ref p ∧ d = .list xs ∧ H p = some (.lst vs) ∧ vs.length ≤ sizeLine ∧ RpAll K Z vs xs) ∨ ∃ p kvs, v = .ref p ∧ d = .dict kvs ∧ DcAt K Z H p kvs
theorem RpV.rp {v : V} {d : D} (r : RpV K Z H v d) (e : Same Z H) : Rp K H v d := by
  rcases r with r | ⟨p, vs, xs, rfl, rfl, h, z, a⟩ | ⟨p, kvs, rfl, rfl, h⟩
  · exact r.same e
  · exact .lst (.inl h) z (a.same e)
  · exact h.rp e
theorem RpV.list {v : V} {xs : List D} (r : RpV K Z H v (.list xs)) (e : Same Z H) : ∃ p vs, v = .ref p ∧ Rd H p (.lst vs) ∧ vs.length ≤ sizeLine ∧ RpAll K Z vs xs := by
  rcases r with r | ⟨p, vs, xs', rfl, e2, h, z, a⟩ | ⟨p, kvs, rfl, e2, h⟩
  · cases r with
    | lst h z a => exact ⟨_, _, rfl, same_rd e h, z, a⟩
  · cases e2; exact ⟨p, vs, rfl, .inl h, z, a⟩
  · cases e2
theorem RpV.tuple {v : V} {xs : List D} (r : RpV K Z H v (.tuple xs)) (e : Same Z H) : ∃ p vs, v = .ref p ∧ SqT K H p vs ∧ vs.length ≤ sizeLine ∧ RpAll K Z vs xs := by
  rcases r with r | ⟨p, vs, xs', rfl, e2, h, z, a⟩ | ⟨p, kvs, rfl, e2, h⟩
  · cases r with
    | tup h z a => exact ⟨_, _, rfl, tupSq (e _ _ h), z, a⟩
  · cases e2
  · cases e2
theorem keyD_ne (k : Key) : keyD k ≠ .none := by
  cases k <;> exact fun h => nomatch h
theorem RpK.nolit {ks : List (Key × V)} {x : D} {r : List (D × D)} (h : RpK K H ks ((.none, x) :: r)) : False := by
  generalize e : ((PyData.none, x) :: r) = l at h
  cases h with
  | nil => cases e
  | cons _ _ =>
    injection e with e1 _
    injection e1 with e2 _
    exact keyD_ne _ e2.symm
theorem RpT.nolit {ks : List (List Key × V)} {x : D} {r : List (D × D)} (h : RpT K H ks ((.none, x) :: r)) : False := by
  generalize e : ((PyData.none, x) :: r) = l at h
  cases h with
  | nil => cases e
  | cons _ _ =>
    injection e with e1 _
    injection e1 with e2 _
    cases e2
theorem RpV.lit {v : V} {xs : List D} (r : RpV K Z H v (.dict [(.none, .list xs)])) (e : Same Z H) : ∃ (p : Addr) (ns : List Int), v = .ref p ∧ xs = ns.map PyData.int ∧ SqL K H p (ns.map V.int) ∧ ns.length ≤ sizeLine := by
  rcases r with r | ⟨p, vs, xs', rfl, e2, h, z, a⟩ | ⟨p, kvs, rfl, e2, h⟩
  · generalize e0 : (PyData.dict [(.none, .list xs)]) = d at r
    cases r with
    | lit h z =>
      unfold litD at e0
      injection e0 with e1
      injection e1 with e2 _
      injection e2 with _ e3
      injection e3 with e4
      exact ⟨_, _, rfl, e4, e.seq h, z⟩
    | exc h =>
      unfold excD at e0
      injection e0 with e1
      injection e1 with e2 _
      injection e2 with _ e3
      cases e3
    | tf h c d z =>
      unfold tfD at e0
      injection e0 with e1
      injection e1 with e2 _
      injection e2 with _ e3
      cases e3
    | dcK h a => cases e0; exact a.nolit.elim
    | dcT h a => cases e0
    | obj h1 h2 a => cases e0
    | _ => cases e0
  · cases e2
  · cases e2
    rcases h with ⟨ks, e1, r⟩ | ⟨ks, kvs', e0, e1, r⟩
    · exact r.nolit.elim
    · cases e0
theorem RpV.tf {v : V} {xs : List D} (r : RpV K Z H v (.dict [(.none, .tuple xs)])) (e : Same Z H) : ∃ (p : Addr) (ob : Obj) (ns : List Int), v = .ref p ∧ xs = ns.map PyData.int ∧ H p = some (.frz ob (.tup (ns.map V.int))) ∧ ob.cls = .type "tuple" ∧ ob.dict = none ∧ ns.length ≤ sizeLine := by
  rcases r with r | ⟨p, vs, xs', rfl, e2, h, z, a⟩ | ⟨p, kvs, rfl, e2, h⟩
  · generalize e0 : (PyData.dict [(.none, .tuple xs)]) = d at r
    cases r with
    | lit h z =>
      unfold litD at e0
      injection e0 with e1
      injection e1 with e2 _
      injection e2 with _ e3
      cases e3
    | exc h =>
      unfold excD at e0
      injection e0 with e1
      injection e1 with e2 _
      injection e2 with _ e3
      cases e3
    | tf h c d z =>
      unfold tfD at e0
      injection e0 with e1
      injection e1 with e2 _
      injection e2 with _ e3
      injection e3 with e4
      exact ⟨_, _, _, rfl, e4, e _ _ h, c, d, z⟩
    | dcK h a => cases e0; exact a.nolit.elim
    | dcT h a => cases e0
    | obj h1 h2 a => cases e0
    | _ => cases e0
  · cases e2
  · cases e2
    rcases h with ⟨ks, e1, r⟩ | ⟨ks, kvs', e0, e1, r⟩
    · exact r.nolit.elim
    · cases e0
theorem RpV.int {v : V} {i : Int} (r : RpV K Z H v (.int i)) : v = .int i := by
  rcases r with r | ⟨p, vs, xs', rfl, e2, h, z, a⟩ | ⟨p, kvs, rfl, e2, h⟩
  · cases r; rfl
  · cases e2
  · cases e2
theorem RpV.bool {v : V} {i : Bool} (r : RpV K Z H v (.bool i)) : v = .bl i := by
  rcases r with r | ⟨p, vs, xs', rfl, e2, h, z, a⟩ | ⟨p, kvs, rfl, e2, h⟩
  · cases r; rfl
  · cases e2
  · cases e2
theorem RpV.str {v : V} {i : Str} (r : RpV K Z H v (.str i)) : v = .str i := by
  rcases r with r | ⟨p, vs, xs', rfl, e2, h, z, a⟩ | ⟨p, kvs, rfl, e2, h⟩
  · cases r; rfl
  · cases e2
  · cases e2
theorem RpV.non {v : V} (r : RpV K Z H v .none) : v = .non := by
  rcases r with r | ⟨p, vs, xs', rfl, e2, h, z, a⟩ | ⟨p, kvs, rfl, e2, h⟩
  · cases r; rfl
  · cases e2
  · cases e2
theorem SlotAt.view {v : Option V} {w : SV} {F : List Addr} {d : D} (h : SlotAt K Z H v w F) (e : viewS w = some d) : ∃ u, v = some u ∧ RpV K Z H u d := by
  cases w with
  | no => cases e
  | d x => cases e; obtain ⟨_, u, h2, r⟩ := h; exact ⟨u, h2, .inl r⟩
  | l xs => cases e; obtain ⟨p, vs, h1, h2, h3, h4, h5⟩ := h; exact ⟨_, h1, .inr (.inl ⟨p, vs, xs, rfl, rfl, h3, h4, h5⟩)⟩
  | ll xss => cases e
  | dc kvs => cases e; obtain ⟨p, h1, h2, h3⟩ := h; exact ⟨_, h1, .inr (.inr ⟨p, kvs, rfl, rfl, h3⟩)⟩
  | ob c fs => cases e
  | tp ws => cases e
  | lo ws => cases e
theorem Rel.slot (r : Rel K Z Y H σ s) (i : Nat) : ∃ F, SlotAt K Z H (σ.getD i none) (s.getD i .no) F := let ⟨F, o⟩ := r.own; ⟨F i, o.at_ i⟩
theorem RelX.look {vs : List V} {rs : List R} (r : RelX K Z Y H σ s vs rs) {k : Nat} {q : R} {d : D} (hk : rs[k]? = some q) (e : viewR s q = some d) : ∃ v, vs[k]? = some v ∧ RpV K Z H v d := by
  have hlt : k < rs.length := (List.getElem?_eq_some_iff.mp hk).1
  have sl : ∃ F, SlotAt K Z H (vs[k]?) (svR q) F := by
    obtain ⟨F, h⟩ := r.rel.slot (σ.length + k)
    refine ⟨F, ?_⟩
    rw [getD_app_ge (by omega), getD_app_ge (by have := r.l1; omega), ← r.l1, Nat.add_sub_cancel_left] at h
    have e1 : (rs.map svR).getD k .no = svR q := by rw [List.getD_eq_getElem?_getD, List.getElem?_map, hk]; rfl
    have e2 : (vs.map some).getD k none = vs[k]? := by
      rw [List.getD_eq_getElem?_getD, List.getElem?_map]
      cases vs[k]? <;> rfl
    rw [e1, e2] at h
    exact h
  cases q with
  | d x =>
    cases e
    obtain ⟨F, h⟩ := sl
    exact h.view rfl
  | own w =>
    obtain ⟨F, h⟩ := sl
    exact h.view e
  | top i =>
    obtain ⟨_, h1⟩ := r.top k i hk
    obtain ⟨F, h⟩ := r.rel0.slot i
    rw [h1] at h
    exact h.view e
structure NewR (K : PySem.W.Frag) (Z H Z' H' : Hp) (u : V) (r : R) : Prop where
  hh : Same H H'
  hz : Same Z Z'
  zh : Same Z' H'
  old : ∀ a, H a ≠ none → Z' a = Z a ∨ ∃ vs, H a = some (.tup vs)
  val : match r with
    | .d x => Rp K Z' u x
    | .own w => ∃ F : List Addr, SlotAt K Z' H' (some u) w F ∧ F.Nodup ∧ ∀ a ∈ F, H a = none ∧ Z' a = none
    | .top _ => False
theorem NewR.d {u : V} {x : D} (e : Same Z H) (h : Rp K Z u x) : NewR K Z H Z H u (.d x) := ⟨Same.refl _, Same.refl _, e, fun _ _ => .inl rfl, h⟩
theorem NewR.tup {p : Addr} {vs : List V} {xs : List D} (e : Same Z H) (hp : H p = none) (z : vs.length ≤ sizeLine) (h : RpAll K Z vs xs) : NewR K Z H (upd Z p (.tup vs)) (upd H p (.tup vs)) (.ref p) (.d (.tuple xs)) :=
  have zp : Z p = none := e.free hp
  ⟨same_upd hp, same_upd zp, fun b x q => by
    by_cases hb : b = p
    · subst hb; rw [upd_same] at q ⊢; exact q
    · rw [upd_ne hb] at q ⊢; exact e b x q, fun a ha => .inl (upd_ne fun z => ha (z ▸ hp)), .tup upd_same z (h.same (same_upd zp))⟩
theorem NewR.lst {p : Addr} {vs : List V} {xs : List D} (e : Same Z H) (hp : H p = none) (z : vs.length ≤ sizeLine) (h : RpAll K Z vs xs) : NewR K Z H Z (upd H p (.lst vs)) (.ref p) (.own (.l xs)) :=
  ⟨same_upd hp, Same.refl _, e.trans (same_upd hp), fun _ _ => .inl rfl, [p], ⟨p, vs, rfl, rfl, upd_same, z, h⟩, by simp, fun a ha => by
    obtain rfl : a = p := by simpa using ha
    exact ⟨hp, e.free hp⟩⟩
theorem Rel.new (r : Rel K Z Y H σ s) {u : V} {q : R} (n : NewR K Z H Z' H' u q) : RelX K Z' Y H' σ s [u] [q] := by
  cases q with
  | d x => exact .d (r.growE n.hh n.hz n.zh n.old) n.val
  | own w =>
    obtain ⟨F, h1, h2, h3⟩ := n.val
    exact .own r.len (r.pushE n.hh n.hz n.zh n.old h1 h2 h3)
  | top i => exact n.val.elim
end
structure Lv where
  E : WX
  io : List Nat
  σ0 : St
def Lv.keeps (L : Lv) (σ : St) : Prop := σ.length = L.σ0.length ∧ ∀ k ∈ L.io, σ.getD k none = L.σ0.getD k none
def XOk (X : Cx) (L : Lv) (Z Y : Hp) (Xf : XF) : Prop := ∀ n C Z' H' σ' s', Same Z Z' → L.keeps σ' → Rel X.K Z' Y H' σ' s' → Xf n s' → X.mg n = some (.ref C) → L.E (.ref C) none σ' H'
theorem XOk.mono {X : Cx} {L : Lv} {Z Z1 Y Y1 : Hp} {Xf : XF} (h : XOk X L Z Y Xf) (hz : Same Z Z1) (back : ∀ Z' H' σ' s', Same Z1 Z' → Rel X.K Z' Y1 H' σ' s' → Rel X.K Z' Y H' σ' s') : XOk X L Z1 Y1 Xf :=
  fun n C Z' H' σ' s' hz' k r q m => h n C Z' H' σ' s' (hz.trans hz') k (back Z' H' σ' s' hz' r) q m
theorem XOk.z {X : Cx} {L : Lv} {Z Z1 Y : Hp} {Xf : XF} (h : XOk X L Z Y Xf) (hz : Same Z Z1) : XOk X L Z1 Y Xf := h.mono hz fun _ _ _ _ _ r => r
def liftE (X : Cx) (L : Lv) (fe : FE) : TE := fun σ H Q => ∃ Z Y s Xf Qf, Rel X.K Z Y H σ s ∧ L.keeps σ ∧ XOk X L Z Y Xf ∧ fe Xf s Qf ∧ ∀ v H' Z' r s', Same Z Z' → RelX X.K Z' Y H' σ s' [v] [r] → Qf r s' → Q v H'
def liftT (X : Cx) (L : Lv) (ft : FT) : TT := fun σ H Q => ∃ Z Y s Xf Qf, Rel X.K Z Y H σ s ∧ L.keeps σ ∧ XOk X L Z Y Xf ∧ ft Xf s Qf ∧ ∀ b H' Z' s', Same Z Z' → Rel X.K Z' Y H' σ s' → Qf b s' → Q b H'
def liftA (X : Cx) (L : Lv) (n : Nat) (fa : FA) : TA := fun σ H Q => ∃ Z Y s Xf Qf, Rel X.K Z Y H σ s ∧ L.keeps σ ∧ XOk X L Z Y Xf ∧ fa Xf s Qf ∧ ∀ vs H' Z' rs s', Same Z Z' → RelX X.K Z' Y H' σ s' vs rs → rs.length = n → Qf rs s' → Q vs H'
structure EndsOk (X : Cx) (L : Lv) (Z Y : Hp) (Ef : FEnds) (D : Ends) : Prop where
  nx : ∀ σ' H' Z' s', Same Z Z' → L.keeps σ' → Rel X.K Z' Y H' σ' s' → Ef.nx s' → D.nx σ' H'
  rt : ∀ v σ' H' Z' r s', Same Z Z' → L.keeps σ' → RelX X.K Z' Y H' σ' s' [v] [r] → Ef.rt r s' → D.rt v H'
  bk : ∀ σ' H' Z' s', Same Z Z' → L.keeps σ' → Rel X.K Z' Y H' σ' s' → Ef.bk s' → D.bk σ' H'
  ct : ∀ σ' H' Z' s', Same Z Z' → L.keeps σ' → Rel X.K Z' Y H' σ' s' → Ef.ct s' → D.ct σ' H'
  xx : XOk X L Z Y Ef.xx
theorem EndsOk.z {X : Cx} {L : Lv} {Z Z1 Y : Hp} {Ef : FEnds} {D : Ends} (h : EndsOk X L Z Y Ef D) (hz : Same Z Z1) : EndsOk X L Z1 Y Ef D :=
  ⟨fun σ' H' Z' s' e => h.nx σ' H' Z' s' (hz.trans e), fun v σ' H' Z' r s' e => h.rt v σ' H' Z' r s' (hz.trans e), fun σ' H' Z' s' e => h.bk σ' H' Z' s' (hz.trans e), fun σ' H' Z' s' e => h.ct σ' H' Z' s' (hz.trans e), h.xx.z hz⟩
def liftS (X : Cx) (L : Lv) (fs : FS) : TS := fun D σ H => ∃ Z Y s Ef, Rel X.K Z Y H σ s ∧ L.keeps σ ∧ fs Ef s ∧ EndsOk X L Z Y Ef D
def PF (X : Cx) (L : Lv) (e : Expr) (fe : FE) : Prop := PE X e (liftE X L fe)
def PFT (X : Cx) (L : Lv) (e : Expr) (ft : FT) : Prop := PT X e (liftT X L ft)
def PFW (X : Cx) (L : Lv) (e : Expr) (ft : FT) : Prop := PW X e (liftT X L ft)
def PFA (X : Cx) (L : Lv) (es : List Expr) (fa : FA) : Prop := PA X es (liftA X L es.length fa)
def PFS (X : Cx) (L : Lv) (st : Stmt) (fs : FS) : Prop := PS X st (liftS X L fs)
def PFSs (X : Cx) (L : Lv) (sts : List Stmt) (fs : FS) : Prop := PSs X sts (liftS X L fs)
section
variable {X : Cx} {L : Lv} {e a b c : Expr} {es : List Expr} {fa fb fc : FE} {fr : FA} {pos p : Pos}
theorem PE_imp {t t' : TE} (h : PE X e t) (hi : ∀ σ H Q, t' σ H Q → t σ H Q) : PE X e t' := ⟨fun pins s σ H Q I q => h.run pins s σ H Q I (hi σ H Q q)⟩
theorem PT_imp {t t' : TT} (h : PT X e t) (hi : ∀ σ H Q, t' σ H Q → t σ H Q) : PT X e t' := ⟨fun pins s σ H Q I q => h.run pins s σ H Q I (hi σ H Q q)⟩
theorem PW_imp {t t' : TT} (h : PW X e t) (hi : ∀ σ H Q, t' σ H Q → t σ H Q) : PW X e t' := ⟨fun w pins s σ H Q I q => h.run w pins s σ H Q I (hi σ H Q q)⟩
theorem PA_imp {t t' : TA} (h : PA X es t) (hi : ∀ σ H Q, t' σ H Q → t σ H Q) : PA X es t' := ⟨fun ps pins s σ H Q I q => h.run ps pins s σ H Q I (hi σ H Q q)⟩
theorem PS_imp {st : Stmt} {t t' : TS} (h : PS X st t) (hi : ∀ D σ H, t' D σ H → t D σ H) : PS X st t' := ⟨fun pins s σ H D I q => h.run pins s σ H D I (hi D σ H q)⟩
theorem PSs_imp {st : List Stmt} {t t' : TS} (h : PSs X st t) (hi : ∀ D σ H, t' D σ H → t D σ H) : PSs X st t' := ⟨fun pins s σ H D I q => h.run pins s σ H D I (hi D σ H q)⟩
theorem getD_some {α : Type} {l : List (Option α)} {i : Nat} {v : α} (h : l.getD i none = some v) : l[i]? = some (some v) := by
  rw [List.getD_eq_getElem?_getD] at h
  cases e : l[i]? with
  | none => rw [e] at h; cases h
  | some o => rw [e] at h; rw [show o = some v from h]
theorem getD_lt {α : Type} {l : List (Option α)} {i : Nat} {v : α} (h : l.getD i none = some v) : i < l.length := (List.getElem?_eq_some_iff.mp (getD_some h)).1
theorem pf_var (i : Nat) {x : Str} (hN : X.N[i]? = some x := by rfl) (hv : Vis X.env.scope x := by first | exact Or.inl rfl | exact Or.inr (Or.inl rfl) | exact Or.inr (Or.inr rfl)) (hd : (x == ("__debug__" : Str)) = false := by decide)
    (hcd : (x == ("__classdict__" : Str)) = false := by decide) : PF X L (.Name x pos) (fVar i) := PE_imp (pe_var hN hv hd hcd) fun σ H Q ⟨Z, Y, s, Xf, Qf, r, k, xo, h, q⟩ => by
  obtain ⟨F, sl⟩ := r.slot i
  unfold fVar at h
  generalize hs : s.getD i .no = w at h sl
  have tp : ∀ p : V, σ.getD i none = some p → Qf (.top i) s → ∃ v, σ[i]? = some (some v) ∧ Q v H := fun p e h => ⟨p, getD_some e, q p H Z _ s (Same.refl _) (.tp r (getD_lt e) e) h⟩
  cases w with
  | no => exact h.elim
  | d x =>
    obtain ⟨_, u, h2, rp⟩ := sl
    exact ⟨u, getD_some h2, q u H Z _ s (Same.refl _) (.d r rp) h⟩
  | l xs => obtain ⟨p, vs, h1, _⟩ := sl; exact tp _ h1 h
  | ll xs => obtain ⟨p, vs, h1, _⟩ := sl; exact tp _ h1 h
  | dc xs => obtain ⟨p, h1, _⟩ := sl; exact tp _ h1 h
  | ob c fs => obtain ⟨p, dx, vs, G, h1, _⟩ := sl; exact tp _ h1 h
  | tp ws => obtain ⟨p, vs, h1, _⟩ := sl; exact tp _ h1 h
  | lo ws => obtain ⟨p, vs, G, h1, _⟩ := sl; exact tp _ h1 h
theorem pf_C {v : V} {x : D} (h : PE X e (tC v)) (r : ∀ Z, Rp X.K Z v x) : PF X L e (fC x) := PE_imp h fun σ H Q ⟨Z, Y, s, Xf, Qf, rl, k, xo, h, q⟩ => q v H Z _ s (Same.refl _) (.d rl (r Z)) h
theorem pf_int {i : Int} {j pos} : PF X L (.Constant (.int i) j pos) (fC (.int i)) := pf_C pe_int fun _ => .int i
theorem pf_bl {i : Bool} {j pos} : PF X L (.Constant (.bool i) j pos) (fC (.bool i)) := pf_C pe_bl fun _ => .bl i
theorem pf_nil : PFA X L [] fNil := PA_imp pa_nil fun σ H Q ⟨Z, Y, s, Xf, Qf, r, k, xo, h, q⟩ => q [] H Z [] s (Same.refl _) (.nil r) rfl h
theorem pf_cons (ha : PF X L e fa) (hr : PFA X L es fr) (hs : starEach (e :: es) X.env = (false, eval e X.env) :: starEach es X.env := by rfl) : PFA X L (e :: es) (fCons fa fr) :=
  PA_imp (pa_cons ha hr hs) fun σ H Q ⟨Z, Y, s, Xf, Qf, r, k, xo, h, q⟩ => by
  refine ⟨Z, Y, s, Xf, _, r, k, xo, h, fun v H1 Z1 r1 s1 hz rx h1 => ?_⟩
  obtain ⟨Y', hy, rl, bk, fw⟩ := rx.frame
  refine ⟨Z1, Y', s1, Xf, _, rl, k, (xo.z hz).mono (Same.refl _) bk, h1, fun vs H2 Z2 rs s2 hz2 rx2 hn h2 => ?_⟩
  exact q (v :: vs) H2 Z2 (r1 :: rs) s2 (hz.trans hz2) (fw Z2 H2 s2 vs rs hz2 rx2) (by rw [List.length_cons, hn]; rfl) h2
theorem frz_ok {K : PySem.W.Frag} {Z Y H : Hp} {σ : St} {s : S} {us vs : List V} {ds : List D} {r : R} {rs : List R} {v : V} {k : D → S → Prop} (rx : RelX K Z Y H σ s (us ++ v :: vs) (ds.map R.d ++ r :: rs)) (hl : us.length = ds.length) (h : frz r s k) :
    ∃ Z' d s', Same Z Z' ∧ RelX K Z' Y H σ s' (us ++ v :: vs) (ds.map R.d ++ .d d :: rs) ∧ k d s' := by
  have hlu : (us.map some).length = (ds.map R.d).length := by rw [List.length_map, List.length_map, hl]
  have ix : ∀ (q : R), (ds.map R.d ++ q :: rs)[us.length]? = some q := fun q => by
    rw [List.getElem?_append_right (by rw [List.length_map, hl]; exact Nat.le_refl _), List.length_map, hl, Nat.sub_self]; rfl
  have iv : (us ++ v :: vs)[us.length]? = some v := by
    rw [List.getElem?_append_right (Nat.le_refl _), Nat.sub_self]; rfl
  have topsD : ∀ d σ', Tops σ (us ++ v :: vs) (ds.map R.d ++ r :: rs) → σ' = σ → Tops σ' (us ++ v :: vs) (ds.map R.d ++ .d d :: rs) := fun d σ' t e k i hk => by
    subst e
    by_cases hk0 : k = us.length
    · subst hk0
      rw [ix] at hk; cases hk
    · have : (ds.map R.d ++ r :: rs)[k]? = (ds.map R.d ++ .d d :: rs)[k]? := by
        by_cases hlt : k < us.length
        · rw [List.getElem?_append_left (by rw [List.length_map]; omega), List.getElem?_append_left (by rw [List.length_map]; omega)]
        · rw [List.getElem?_append_right (by rw [List.length_map]; omega), List.getElem?_append_right (by rw [List.length_map]; omega), List.length_map]
          have : k - ds.length = (k - ds.length - 1) + 1 := by omega
          rw [this]; rfl
      exact t k i (this.trans hk)
  cases r with
  | d x => exact ⟨Z, x, s, Same.refl _, rx, h⟩
  | own w =>
    unfold frz at h
    dsimp only at h
    cases e : asD w with
    | none => rw [e] at h; exact h.elim
    | some x =>
      rw [e] at h
      have sl : (s ++ (ds.map R.d ++ .own w :: rs).map svR).getD (s.length + us.length) .no = w := by
        rw [getD_app_ge (by omega), Nat.add_sub_cancel_left, List.getD_eq_getElem?_getD, List.getElem?_map, ix]; rfl
      obtain ⟨Z', hz, rl⟩ := rx.rel.freeze (i := s.length + us.length) (x := x) (by rw [sl]; exact e)
      refine ⟨Z', x, s, hz, ⟨?_, rx.l1, ?_, topsD x σ rx.top rfl⟩, h⟩
      · have : (s ++ (ds.map R.d ++ .own w :: rs).map svR).set (s.length + us.length) (.d x) = s ++ (ds.map R.d ++ .d x :: rs).map svR := by
          rw [List.set_append_right _ _ (by omega), Nat.add_sub_cancel_left, List.map_append, List.map_append, List.set_append_right _ _ (by simp [hl]), List.length_map, List.length_map, hl, Nat.sub_self]
          rfl
        rw [this] at rl
        exact rl
      · have := rx.l2
        simp only [List.length_append, List.length_cons] at this ⊢
        exact this
  | top i =>
    unfold frz at h
    dsimp only at h
    cases e : asD (s.getD i .no) with
    | none => rw [e] at h; exact h.elim
    | some x =>
      rw [e] at h
      obtain ⟨hi, hv⟩ := rx.top us.length i (ix _)
      rw [iv] at hv
      have his : i < s.length := by rw [← rx.l1]; exact hi
      obtain ⟨Z', hz, rl⟩ := rx.rel.freeze (i := i) (x := x) (by rw [getD_app_lt his]; exact e)
      rw [List.set_append_left _ _ his] at rl
      refine ⟨Z', x, s.set i (.d x), hz, ⟨?_, by rw [List.length_set]; exact rx.l1, ?_, topsD x σ rx.top rfl⟩, h⟩
      · have rpx : Rp K Z' v x := by
          obtain ⟨F, q⟩ := rl.slot i
          rw [getD_app_lt (by omega), getD_app_lt (by rw [List.length_set]; exact his), getD_set_self his, hv] at q
          obtain ⟨_, u, e1, rp⟩ := q
          cases e1
          exact rp
        have hlen : ((s.set i (.d x)) ++ (ds.map R.d ++ .top i :: rs).map svR).length = ((s.set i (.d x)) ++ (ds.map R.d ++ .d x :: rs).map svR).length := by simp
        refine rl.re (fun k => if k = s.length + us.length then none else some k) (by have := rl.len; rw [hlen] at this; exact this) (fun k => ?_) (fun k k' j h h' => ?_)
        · by_cases hk : k = s.length + us.length
          · simp only [if_pos hk]
            refine .inr ⟨x, v, ?_, ?_, rpx⟩
            · rw [hk, getD_app_ge (by rw [List.length_set]; omega), List.length_set, Nat.add_sub_cancel_left, List.getD_eq_getElem?_getD, List.getElem?_map, ix]; rfl
            · rw [hk, getD_app_ge (by have := rx.l1; omega), rx.l1, Nat.add_sub_cancel_left, List.getD_eq_getElem?_getD, List.getElem?_map, iv]; rfl
          · simp only [if_neg hk]
            refine ⟨?_, trivial⟩
            by_cases hlt : k < s.length
            · rw [getD_app_lt (by rw [List.length_set]; exact hlt), getD_app_lt (by rw [List.length_set]; exact hlt)]
            · rw [getD_app_ge (by rw [List.length_set]; omega), getD_app_ge (by rw [List.length_set]; omega), List.length_set, List.map_append, List.map_append]
              by_cases hlt2 : k - s.length < us.length
              · rw [getD_app_lt (by simp; omega), getD_app_lt (by simp; omega)]
              · rw [getD_app_ge (by simp; omega), getD_app_ge (by simp; omega)]
                have : k - s.length - (List.map svR (ds.map R.d)).length = (k - s.length - (List.map svR (ds.map R.d)).length - 1) + 1 := by simp; omega
                rw [this]
                rfl
        · by_cases e1 : k = s.length + us.length
          · rw [if_pos e1] at h; cases h
          · by_cases e2 : k' = s.length + us.length
            · rw [if_pos e2] at h'; cases h'
            · rw [if_neg e1] at h; rw [if_neg e2] at h'; cases h; cases h'; rfl
      · have := rx.l2
        simp only [List.length_append, List.length_cons] at this ⊢
        exact this
theorem frzAll_ok {K : PySem.W.Frag} {Y H : Hp} {σ : St} : ∀ {rs : List R} {vs : List V} {us : List V} {ds : List D} {Z : Hp} {s : S} {k : List D → S → Prop}, RelX K Z Y H σ s (us ++ vs) (ds.map R.d ++ rs) → us.length = ds.length → frzAll rs s k →
    ∃ Z' es s', Same Z Z' ∧ RelX K Z' Y H σ s' (us ++ vs) ((ds ++ es).map R.d) ∧ k es s'
  | [], vs, us, ds, Z, s, k, rx, hl, h => by
    refine ⟨Z, [], s, Same.refl _, ?_, h⟩
    simpa using rx
  | r :: rs, [], us, ds, Z, s, k, rx, hl, h => by
    have := rx.l2
    simp at this
    omega
  | r :: rs, v :: vs, us, ds, Z, s, k, rx, hl, h => by
    obtain ⟨Z1, d, s1, hz, rx1, h1⟩ := frz_ok rx hl h
    have e1 : us ++ v :: vs = (us ++ [v]) ++ vs := by simp
    have e2 : ds.map R.d ++ .d d :: rs = (ds ++ [d]).map R.d ++ rs := by simp
    rw [e1, e2] at rx1
    obtain ⟨Z2, es, s2, hz2, rx2, h2⟩ := frzAll_ok rx1 (by simp [hl]) h1
    refine ⟨Z2, d :: es, s2, hz.trans hz2, ?_, h2⟩
    rw [e1]
    simpa using rx2
theorem RelX.rps {K : PySem.W.Frag} {Z Y H : Hp} {σ : St} {s : S} : ∀ {vs : List V} {ds : List D}, RelX K Z Y H σ s vs (ds.map R.d) → RpAll K Z vs ds := by
  intro vs ds r
  have hl := r.l2
  rw [List.length_map] at hl
  have at_ : ∀ i v d, vs[i]? = some v → ds[i]? = some d → Rp K Z v d := fun i v d h1 h2 => by
    obtain ⟨F, q⟩ := r.rel.slot (σ.length + i)
    rw [getD_app_ge (by omega), getD_app_ge (by have := r.l1; omega), ← r.l1, Nat.add_sub_cancel_left, List.getD_eq_getElem?_getD, List.getD_eq_getElem?_getD, List.getElem?_map, List.getElem?_map, List.getElem?_map, h1, h2] at q
    obtain ⟨_, u, e1, rp⟩ := q
    cases e1
    exact rp
  clear r
  induction vs generalizing ds with
  | nil =>
    cases ds with
    | nil => exact .nil
    | cons d ds => simp at hl
  | cons v vs ih =>
    cases ds with
    | nil => simp at hl
    | cons d ds => exact .cons (at_ 0 v d rfl rfl) (ih (by simpa using hl) fun i v' d' h1 h2 => at_ (i + 1) v' d' h1 h2)
theorem pf_tup {x1} (ha : PFA X L es fr) (hn : es.length ≤ sizeLine := by show _ ≤ 16777216; decide) : PF X L (.Tuple es x1 pos) (fTup fr) := PE_imp (pe_tup ha) fun σ H Q ⟨Z, Y, s, Xf, Qf, r, k, xo, h, q⟩ => by
  refine ⟨Z, Y, s, Xf, _, r, k, xo, h, fun vs H1 Z1 rs s1 hz rx hl h1 => ?_⟩
  refine ⟨by rw [rx.l2, hl]; exact hn, fun p hp => ?_⟩
  obtain ⟨Z2, ds, s2, hz2, rx2, h2⟩ := frzAll_ok (us := []) (ds := []) rx rfl h1
  have n : NewR X.K Z2 H1 (upd Z2 p (.tup vs)) (upd H1 p (.tup vs)) (.ref p) (.d (.tuple ds)) := .tup rx2.rel0.zh hp (by rw [rx.l2, hl]; exact hn) rx2.rps
  exact q (.ref p) _ _ _ s2 ((hz.trans hz2).trans n.hz) (rx2.rel0.new n) h2
theorem pf_lst (ha : PFA X L es fr) (hn : es.length ≤ sizeLine := by show _ ≤ 16777216; decide) : PF X L (.List es pos) (fLst fr) := PE_imp (pe_lst ha) fun σ H Q ⟨Z, Y, s, Xf, Qf, r, k, xo, h, q⟩ => by
  refine ⟨Z, Y, s, Xf, _, r, k, xo, h, fun vs H1 Z1 rs s1 hz rx hl h1 => ?_⟩
  refine ⟨by rw [rx.l2, hl]; exact hn, fun p hp => ?_⟩
  obtain ⟨Z2, ds, s2, hz2, rx2, h2⟩ := frzAll_ok (us := []) (ds := []) rx rfl h1
  have n : NewR X.K Z2 H1 Z2 (upd H1 p (.lst vs)) (.ref p) (.own (.l ds)) := .lst rx2.rel0.zh hp (by rw [rx.l2, hl]; exact hn) rx2.rps
  exact q (.ref p) _ _ _ s2 ((hz.trans hz2).trans n.hz) (rx2.rel0.new n) h2
def rF2 (K : PySem.W.Frag) (g : V2) : R2 := fun x y H Q => ∃ Z d e Qf, Same Z H ∧ RpV K Z H x d ∧ RpV K Z H y e ∧ g d e Qf ∧ ∀ u H' Z' r, NewR K Z H Z' H' u r → Qf r → Q u H'
def rF1 (K : PySem.W.Frag) (g : V1) : V → Hp → VK → Prop := fun x H Q => ∃ Z d Qf, Same Z H ∧ RpV K Z H x d ∧ g d Qf ∧ ∀ u H' Z' r, NewR K Z H Z' H' u r → Qf r → Q u H'
theorem look_ok {s : S} {r : R} {k : D → Prop} (h : look s r k) : ∃ d, viewR s r = some d ∧ k d := by
  unfold look at h
  cases e : viewR s r with
  | none => rw [e] at h; exact h.elim
  | some d => rw [e] at h; exact ⟨d, rfl, h⟩
theorem fOp_ok {g : V2} {σ : St} {H : Hp} {Q : VK} (h : liftE X L (fOp g fa fb) σ H Q) : tOp (rF2 X.K g) (liftE X L fa) (liftE X L fb) σ H Q := by
  obtain ⟨Z, Y, s, Xf, Qf, r, k, xo, h, q⟩ := h
  refine ⟨Z, Y, s, Xf, _, r, k, xo, h, fun v H1 Z1 r1 s1 hz rx h1 => ?_⟩
  obtain ⟨Y', hy, rl, bk, fw⟩ := rx.frame
  refine ⟨Z1, Y', s1, Xf, _, rl, k, (xo.z hz).mono (Same.refl _) bk, h1, fun w H2 Z2 r2 s2 hz2 rx2 h2 => ?_⟩
  have rx3 := fw Z2 H2 s2 [w] [r2] hz2 rx2
  obtain ⟨d, e1, h3⟩ := look_ok h2
  obtain ⟨e, e2, h4⟩ := look_ok h3
  obtain ⟨v', ev, rv⟩ := rx3.look (k := 0) rfl e1
  obtain ⟨w', ew, rw'⟩ := rx3.look (k := 1) rfl e2
  cases ev; cases ew
  exact ⟨Z2, d, e, _, rx3.rel0.zh, rv, rw', h4, fun u H' Z' r n hq => q u H' Z' r s2 ((hz.trans hz2).trans n.hz) (rx3.rel0.new n) hq⟩
theorem pf_op {op : Operator} {g : V2} (ho : OpR X (binaryOp op) (rF2 X.K g)) (ha : PF X L a fa) (hb : PF X L b fb) : PF X L (.BinOp a op b pos) (fOp g fa fb) := PE_imp (pe_op ho ha hb) fun _ _ _ => fOp_ok
theorem pf_cmp {op : CmpOp} {g : V2} (ho : OpR X (compareOp op) (rF2 X.K g)) (ha : PF X L a fa) (hb : PF X L b fb) (hm : behindInMarks op b = false) : PF X L (.Compare a [op] [b] pos) (fOp g fa fb) := PE_imp (pe_cmpR ho ha hb hm) fun _ _ _ => fOp_ok
theorem fUn_ok {g : V1} {σ : St} {H : Hp} {Q : VK} (h : liftE X L (fUn g fa) σ H Q) : tUn (rF1 X.K g) (liftE X L fa) σ H Q := by
  obtain ⟨Z, Y, s, Xf, Qf, r, k, xo, h, q⟩ := h
  refine ⟨Z, Y, s, Xf, _, r, k, xo, h, fun v H1 Z1 r1 s1 hz rx h1 => ?_⟩
  obtain ⟨d, e1, h3⟩ := look_ok h1
  obtain ⟨v', ev, rv⟩ := rx.look (k := 0) rfl e1
  cases ev
  exact ⟨Z1, d, _, rx.rel0.zh, rv, h3, fun u H' Z' r n hq => q u H' Z' r s1 (hz.trans n.hz) (rx.rel0.new n) hq⟩
theorem pf_un {op : UnaryOp} {g : V1} (ho : UnR X (unaryOp op) (rF1 X.K g)) (ha : PF X L a fa) : PF X L (.UnaryOp op a pos) (fUn g fa) := PE_imp (pe_un ho ha) fun _ _ _ => fUn_ok
theorem pf_ix {g : V2} (hr : IxR X (rF2 X.K g)) (ha : PF X L a fa) (hb : PF X L b fb) (hs : PlainIx b := by exact fun _ _ => rfl) : PF X L (.Subscript a b pos) (fOp g fa fb) := PE_imp (pe_ix hr ha hb hs) fun _ _ _ => fOp_ok
end
end Hs
namespace Hs
open PySem PySem.Spec PyProof.Rows L2
section
variable {X : Cx} {L : Lv} {e a b c : Expr} {es : List Expr} {fa fb fc : FE} {ft fu : FT} {fr : FA} {pos p : Pos}
theorem isB_ok {r : R} {k : Bool → Prop} (h : isB r k) : ∃ c, r = .d (.bool c) ∧ k c := by
  cases r with
  | d x =>
    cases x with
    | bool c => exact ⟨c, rfl, h⟩
    | _ => exact h.elim
  | _ => exact h.elim
theorem RelX.vd {K : PySem.W.Frag} {Z Y H : Hp} {σ : St} {s : S} {v : V} {x : D} (r : RelX K Z Y H σ s [v] [.d x]) : Rp K Z v x := by
  have q := RelX.rps (ds := [x]) r
  cases q with
  | cons h _ => exact h
theorem RelX.vb {K : PySem.W.Frag} {Z Y H : Hp} {σ : St} {s : S} {v : V} {c : Bool} (r : RelX K Z Y H σ s [v] [.d (.bool c)]) : v = .bl c := by
  have q := r.vd
  cases q
  rfl
theorem RelX.vi {K : PySem.W.Frag} {Z Y H : Hp} {σ : St} {s : S} {v : V} {c : Int} (r : RelX K Z Y H σ s [v] [.d (.int c)]) : v = .int c := by
  have q := r.vd
  cases q
  rfl
theorem pf_one {op} (h : PF X L a fa) : PF X L (.BoolOp op [a] pos) fa := pe_one h
theorem pf_and {rest : List Expr} (ha : PF X L a fa) (hb : PF X L (.BoolOp .And (b :: rest) pos) fb) : PF X L (.BoolOp .And (a :: b :: rest) pos) (fAndV fa fb) := PE_imp (pe_and ha hb) fun σ H Q ⟨Z, Y, s, Xf, Qf, r, k, xo, h, q⟩ => by
  refine ⟨Z, Y, s, Xf, _, r, k, xo, h, fun v H1 Z1 r1 s1 hz rx h1 => ?_⟩
  obtain ⟨c, rfl, h2⟩ := isB_ok h1
  refine ⟨c, rx.vb, ?_⟩
  cases c with
  | true => exact ⟨Z1, Y, s1, Xf, _, rx.rel0, k, xo.z hz, h2, fun w H2 Z2 r2 s2 hz2 rx2 hq => q w H2 Z2 r2 s2 (hz.trans hz2) rx2 hq⟩
  | false => exact q _ H1 Z1 _ s1 hz (.d rx.rel0 (.bl false)) h2
theorem pf_not (ha : PF X L a fa) : PF X L (.UnaryOp .Not a pos) (fNotV fa) := PE_imp (pe_not ha) fun σ H Q ⟨Z, Y, s, Xf, Qf, r, k, xo, h, q⟩ => by
  refine ⟨Z, Y, s, Xf, _, r, k, xo, h, fun v H1 Z1 r1 s1 hz rx h1 => ?_⟩
  obtain ⟨c, rfl, h2⟩ := isB_ok h1
  exact ⟨c, rx.vb, q _ H1 Z1 _ s1 hz (.d rx.rel0 (.bl _)) h2⟩
theorem pft_B (h : PF X L e fa) (he : ∀ whole, isTrue e X.env whole = (do let v ← whole; standAt e.pos; holding [v] (truthy v)) := by intro _; rfl) : PFT X L e (fB fa) := PT_imp (pt_val h he) fun σ H Q ⟨Z, Y, s, Xf, Qf, r, k, xo, h, q⟩ => by
  refine ⟨Z, Y, s, Xf, _, r, k, xo, h, fun v H1 Z1 r1 s1 hz rx h1 => ?_⟩
  obtain ⟨c, rfl, h2⟩ := isB_ok h1
  exact ⟨c, rx.vb, q _ H1 Z1 s1 hz rx.rel0 h2⟩
theorem pft_cmp {op : CmpOp} {g : V2} (ho : OpR X (compareOp op) (rF2 X.K g)) (ha : PF X L a fa) (hb : PF X L b fb) (hm : behindInMarks op b = false) : PFT X L (.Compare a [op] [b] pos) (fB (fOp g fa fb)) := PT_imp (pt_cmpR ho ha hb hm) fun σ H Q ⟨Z, Y, s, Xf, Qf, r, k, xo, h, q⟩ => by
  refine fOp_ok ⟨Z, Y, s, Xf, _, r, k, xo, h, fun v H1 Z1 r1 s1 hz rx h1 => ?_⟩
  obtain ⟨c, rfl, h2⟩ := isB_ok h1
  exact ⟨c, rx.vb, q _ H1 Z1 s1 hz rx.rel0 h2⟩
theorem pfw_and1 (ha : PFT X L a ft) : PFW X L (.BoolOp .And [a] pos) ft := pw_and1 ha
theorem pfw_or1 (ha : PFT X L a ft) : PFW X L (.BoolOp .Or [a] pos) ft := pw_or1 ha
theorem pfw_and {rest : List Expr} (ha : PFT X L a ft) (hb : PFW X L (.BoolOp .And (b :: rest) pos) fu) : PFW X L (.BoolOp .And (a :: b :: rest) pos) (fAnd ft fu) := PW_imp (pw_and ha hb) fun σ H Q ⟨Z, Y, s, Xf, Qf, r, k, xo, h, q⟩ => by
  refine ⟨Z, Y, s, Xf, _, r, k, xo, h, fun d H1 Z1 s1 hz rl h1 => ?_⟩
  cases d with
  | true => exact ⟨Z1, Y, s1, Xf, _, rl, k, xo.z hz, h1, fun w H2 Z2 s2 hz2 rx2 hq => q w H2 Z2 s2 (hz.trans hz2) rx2 hq⟩
  | false => exact q _ H1 Z1 s1 hz rl h1
theorem pfw_or {rest : List Expr} (ha : PFT X L a ft) (hb : PFW X L (.BoolOp .Or (b :: rest) pos) fu) : PFW X L (.BoolOp .Or (a :: b :: rest) pos) (fOr ft fu) := PW_imp (pw_or ha hb) fun σ H Q ⟨Z, Y, s, Xf, Qf, r, k, xo, h, q⟩ => by
  refine ⟨Z, Y, s, Xf, _, r, k, xo, h, fun d H1 Z1 s1 hz rl h1 => ?_⟩
  cases d with
  | false => exact ⟨Z1, Y, s1, Xf, _, rl, k, xo.z hz, h1, fun w H2 Z2 s2 hz2 rx2 hq => q w H2 Z2 s2 (hz.trans hz2) rx2 hq⟩
  | true => exact q _ H1 Z1 s1 hz rl h1
theorem pft_W (h : PFW X L e ft) : PFT X L e ft := PW.pt h
theorem pft_not (ha : PFT X L a ft) : PFT X L (.UnaryOp .Not a pos) (fNot ft) := PT_imp (pt_not ha) fun σ H Q ⟨Z, Y, s, Xf, Qf, r, k, xo, h, q⟩ =>
  ⟨Z, Y, s, Xf, _, r, k, xo, h, fun d H1 Z1 s1 hz rl h1 => q _ H1 Z1 s1 hz rl h1⟩
theorem RelX.app2 {K : PySem.W.Frag} {Z Y H : Hp} {σ : St} {s : S} {v w : V} {r q : R} (x : RelX K Z Y H σ s [v, w] [r, q]) : RelX K Z Y H σ s [w] [q] := by
  refine ⟨?_, x.l1, rfl, fun k i h => ?_⟩
  · refine x.rel.re (fun k => if k < σ.length then some k else if k = σ.length then some (k + 1) else none) (by have := x.l1; simp [this]) (fun k => ?_) (fun k k' j h h' => ?_)
    · have hl := x.l1
      by_cases h1 : k < σ.length
      · simp only [if_pos h1]
        exact ⟨by rw [getD_app_lt (by omega), getD_app_lt (by omega)], by rw [getD_app_lt h1, getD_app_lt h1]⟩
      · simp only [if_neg h1]
        by_cases h2 : k = σ.length
        · simp only [if_pos h2]
          subst h2
          refine ⟨?_, ?_⟩
          · rw [getD_app_ge (by omega), getD_app_ge (by omega)]
            have e1 : σ.length - s.length = 0 := by omega
            have e2 : σ.length + 1 - s.length = 1 := by omega
            rw [e1, e2]; rfl
          · rw [getD_app_ge (Nat.le_refl _), getD_app_ge (Nat.le_succ _)]
            have e1 : σ.length - σ.length = 0 := by omega
            have e2 : σ.length + 1 - σ.length = 1 := by omega
            rw [e1, e2]; rfl
        · simp only [if_neg h2]
          exact .inl (getD_out (by simp; omega))
    · by_cases a1 : k < σ.length
      · rw [if_pos a1] at h
        by_cases b1 : k' < σ.length
        · rw [if_pos b1] at h'; cases h; cases h'; rfl
        · rw [if_neg b1] at h'
          by_cases b2 : k' = σ.length
          · rw [if_pos b2] at h'; cases h; cases h'; omega
          · rw [if_neg b2] at h'; cases h'
      · rw [if_neg a1] at h
        by_cases a2 : k = σ.length
        · rw [if_pos a2] at h
          by_cases b1 : k' < σ.length
          · rw [if_pos b1] at h'; cases h; cases h'; omega
          · rw [if_neg b1] at h'
            by_cases b2 : k' = σ.length
            · omega
            · rw [if_neg b2] at h'; cases h'
        · rw [if_neg a2] at h; cases h
  · cases k with
    | zero => exact x.top 1 i h
    | succ k => simp at h
theorem fChain_ok {g g' : V2} {σ : St} {H : Hp} {Q : VK} (h : liftE X L (fChain g g' fa fb fc) σ H Q) : tChain (rF2 X.K g) (rF2 X.K g') (liftE X L fa) (liftE X L fb) (liftE X L fc) σ H Q := by
  obtain ⟨Z, Y, s, Xf, Qf, r, k, xo, h, q⟩ := h
  refine ⟨Z, Y, s, Xf, _, r, k, xo, h, fun v H1 Z1 r1 s1 hz rx h1 => ?_⟩
  obtain ⟨Y', hy, rl, bk, fw⟩ := rx.frame
  refine ⟨Z1, Y', s1, Xf, _, rl, k, (xo.z hz).mono (Same.refl _) bk, h1, fun w H2 Z2 r2 s2 hz2 rx2 h2 => ?_⟩
  have rx3 := fw Z2 H2 s2 [w] [r2] hz2 rx2
  obtain ⟨d, e1, h3⟩ := look_ok h2
  obtain ⟨e, e2, h4⟩ := look_ok h3
  obtain ⟨v', ev, rv⟩ := rx3.look (k := 0) rfl e1
  obtain ⟨w', ew, rw'⟩ := rx3.look (k := 1) rfl e2
  cases ev; cases ew
  refine ⟨Z2, d, e, _, rx3.rel0.zh, rv, rw', h4, fun u H3 Z3 r3 n hq => ?_⟩
  obtain ⟨c, rfl, h5⟩ := isB_ok hq
  have uv : u = .bl c := by have := n.val; cases this; rfl
  refine ⟨c, uv, ?_⟩
  have rx4 : RelX X.K Z3 Y H3 σ s2 [w] [r2] := by
    have y := rx3.app2
    exact ⟨y.rel.growE n.hh n.hz n.zh n.old, y.l1, y.l2, y.top⟩
  cases c with
  | false => exact q _ H3 Z3 _ s2 ((hz.trans hz2).trans n.hz) (.d rx4.rel0 (.bl false)) h5
  | true =>
    obtain ⟨Y2, hy2, rl2, bk2, fw2⟩ := rx4.frame
    refine ⟨Z3, Y2, s2, Xf, _, rl2, k, (xo.z ((hz.trans hz2).trans n.hz)).mono (Same.refl _) bk2, h5, fun x H4 Z4 r4 s4 hz4 rx5 h6 => ?_⟩
    have rx6 := fw2 Z4 H4 s4 [x] [r4] hz4 rx5
    obtain ⟨d', e3, h7⟩ := look_ok h6
    obtain ⟨e', e4, h8⟩ := look_ok h7
    obtain ⟨v3, ev3, rv3⟩ := rx6.look (k := 0) rfl e3
    obtain ⟨w3, ew3, rw3⟩ := rx6.look (k := 1) rfl e4
    cases ev3; cases ew3
    exact ⟨Z4, d', e', _, rx6.rel0.zh, rv3, rw3, h8, fun u5 H5 Z5 r5 n5 hq5 => q u5 H5 Z5 r5 s4 ((((hz.trans hz2).trans n.hz).trans hz4).trans n5.hz) (rx6.rel0.new n5) hq5⟩
theorem pf_chain {op op' : CmpOp} {g g' : V2} (ho : OpR X (compareOp op) (rF2 X.K g)) (ho' : OpR X (compareOp op') (rF2 X.K g')) (ha : PF X L a fa) (hb : PF X L b fb) (hc : PF X L c fc)
    (hm : lastMarks [op, op'] [b, c] = false := by with_unfolding_all rfl) : PF X L (.Compare a [op, op'] [b, c] pos) (fChain g g' fa fb fc) := PE_imp (pe_chain ho ho' ha hb hc hm) fun _ _ _ => fChain_ok
variable {st : Stmt} {rest : List Stmt} {f1 f2 : FS}
theorem pfs_nil : PFSs X L [] fNext := PSs_imp pss_nil fun D σ H ⟨Z, Y, s, Ef, r, k, h, eo⟩ => eo.nx σ H Z s (Same.refl _) k r h
theorem pfs_cons (h1 : PFS X L st f1) (h2 : PFSs X L rest f2) : PFSs X L (st :: rest) (fSeq f1 f2) := PSs_imp (pss_cons h1 h2) fun D σ H ⟨Z, Y, s, Ef, r, k, h, eo⟩ =>
  ⟨Z, Y, s, _, r, k, h, ⟨fun σ' H' Z' s' hz k' r' h' => ⟨Z', Y, s', Ef, r', k', h', eo.z hz⟩, eo.rt, eo.bk, eo.ct, eo.xx⟩⟩
theorem pfs_one (h1 : PFS X L st f1) : PFSs X L [st] f1 := pss_one h1
theorem pfs_expr (he : PF X L e fa) (hs : swapsWith e none pos.line X.env = pure false := by rfl) : PFS X L (.Expr e pos) (fDrop fa) := PS_imp (ps_expr he hs) fun D σ H ⟨Z, Y, s, Ef, r, k, h, eo⟩ =>
  ⟨Z, Y, s, Ef.xx, _, r, k, eo.xx, h, fun v H1 Z1 r1 s1 hz rx h1 => eo.nx σ H1 Z1 s1 hz k rx.rel0 h1⟩
theorem pfs_ret (he : PF X L e fa) : PFS X L (.Return (some e) pos) (fRet fa) := PS_imp (ps_ret he) fun D σ H ⟨Z, Y, s, Ef, r, k, h, eo⟩ =>
  ⟨Z, Y, s, Ef.xx, _, r, k, eo.xx, h, fun v H1 Z1 r1 s1 hz rx h1 => eo.rt v σ H1 Z1 r1 s1 hz k rx h1⟩
theorem pfs_if {sa sb : List Stmt} (hc : PFT X L c ft) (ha : PFSs X L sa f1) (hb : PFSs X L sb f2) : PFS X L (.If c sa sb pos) (fIfS ft f1 f2) := PS_imp (ps_if hc ha hb) fun D σ H ⟨Z, Y, s, Ef, r, k, h, eo⟩ => by
  refine ⟨Z, Y, s, Ef.xx, _, r, k, eo.xx, h, fun d H1 Z1 s1 hz rl h1 => ?_⟩
  cases d with
  | true => exact ⟨Z1, Y, s1, Ef, rl, k, h1, eo.z hz⟩
  | false => exact ⟨Z1, Y, s1, Ef, rl, k, h1, eo.z hz⟩
theorem Lv.keeps_set {σ : St} {i : Nat} {v : Option V} (k : L.keeps σ) (hi : i ∉ L.io) : L.keeps (σ.set i v) := ⟨by rw [List.length_set]; exact k.1, fun j hj => by
  rw [getD_set_ne (fun z : i = j => hi (by rw [z]; exact hj))]
  exact k.2 j hj⟩
/-- the last slot put into another one -/
theorem Rel.put {K : PySem.W.Frag} {Z Y H : Hp} {σ : St} {s : S} {v : V} {w : SV} (r : Rel K Z Y H (σ ++ [some v]) (s ++ [w])) (hl : σ.length = s.length) (i : Nat) : Rel K Z Y H (σ.set i (some v)) (s.set i w) := by
  by_cases hi : i < σ.length
  · refine r.re (fun k => if k < σ.length then (if k = i then some σ.length else some k) else none) (by simp [hl]) (fun k => ?_) (fun k k' j h h' => ?_)
    · by_cases h1 : k < σ.length
      · simp only [if_pos h1]
        by_cases h2 : k = i
        · subst h2
          simp only [if_pos rfl]
          refine ⟨?_, ?_⟩
          · rw [getD_set_self (by omega), getD_app_ge (by omega), hl, Nat.sub_self]; rfl
          · rw [getD_set_self hi, getD_app_ge (Nat.le_refl _), Nat.sub_self]; rfl
        · simp only [if_neg h2]
          exact ⟨by rw [getD_set_ne (Ne.symm h2), getD_app_lt (by omega)], by rw [getD_set_ne (Ne.symm h2), getD_app_lt h1]⟩
      · simp only [if_neg h1]
        exact .inl (getD_out (by simp; omega))
    · by_cases a1 : k < σ.length
      · rw [if_pos a1] at h
        by_cases b1 : k' < σ.length
        · rw [if_pos b1] at h'
          by_cases a2 : k = i
          · by_cases b2 : k' = i
            · omega
            · rw [if_pos a2] at h; rw [if_neg b2] at h'; cases h; cases h'; omega
          · rw [if_neg a2] at h
            by_cases b2 : k' = i
            · rw [if_pos b2] at h'; cases h; cases h'; omega
            · rw [if_neg b2] at h'; cases h; cases h'; rfl
        · rw [if_neg b1] at h'; cases h'
      · rw [if_neg a1] at h; cases h
  · rw [List.set_eq_of_length_le (by omega), List.set_eq_of_length_le (by omega)]
    exact r.take hl
/-- what has come, stored -/
theorem putR_ok {K : PySem.W.Frag} {Z Y H : Hp} {σ : St} {s : S} {v : V} {r : R} {i : Nat} {k : S → Prop} (rx : RelX K Z Y H σ s [v] [r]) (h : putR i r s k) : ∃ Z' s', Same Z Z' ∧ Rel K Z' Y H (σ.set i (some v)) s' ∧ k s' := by
  cases r with
  | d x => exact ⟨Z, _, Same.refl _, Rel.put rx.rel rx.l1 i, h⟩
  | own w => exact ⟨Z, _, Same.refl _, Rel.put rx.rel rx.l1 i, h⟩
  | top j =>
    unfold putR at h
    dsimp only at h
    cases e : asD (s.getD j .no) with
    | none => rw [e] at h; exact h.elim
    | some x =>
      rw [e] at h
      have h' : frz (.top j) s fun d s' => k (s'.set i (.d d)) := by
        unfold frz; dsimp only; rw [e]; exact h
      obtain ⟨Z', d, s', hz, rx', h2⟩ := frz_ok (us := []) (ds := []) (vs := []) (rs := []) rx rfl h'
      exact ⟨Z', _, hz, Rel.put rx'.rel rx'.l1 i, h2⟩
theorem pfs_set {i : Nat} {x : Str} {pos' : Pos} (hN : X.N.Nodup) (he : PF X L e fa) (hi : X.N[i]? = some x := by rfl) (hx : Loc X.env.scope x := by first | exact Or.inl rfl | exact Or.inr rfl) (hio : i ∉ L.io := by exact of_decide_eq_true rfl) (hs : swapsWith e (some (.Name x pos')) pos.line X.env = pure false := by rfl) (hf : X.fn x = true ∨ X.env.scope.names.lookup x = some .local := by first | exact .inl rfl | exact .inr rfl) :
    PFS X L (.Assign [.Name x pos'] e pos) (fAsg i fa) := PS_imp (ps_set hN hi hx he hs hf) fun D σ H ⟨Z, Y, s, Ef, r, k, h, eo⟩ => by
  refine ⟨Z, Y, s, Ef.xx, _, r, k, eo.xx, h, fun v H1 Z1 r1 s1 hz rx h1 => ?_⟩
  obtain ⟨Z2, s2, hz2, rl2, h2⟩ := putR_ok rx h1
  exact eo.nx _ H1 Z2 s2 (hz.trans hz2) (L.keeps_set k hio) rl2 h2
/-- only the slots ws differ -/
def Only (ws : List Nat) (σ σ' : St) : Prop := σ'.length = σ.length ∧ ∀ j : Nat, j ∉ ws → σ'[j]? = σ[j]?
theorem Only.refl {ws : List Nat} {σ : St} : Only ws σ σ := ⟨rfl, fun _ _ => rfl⟩
theorem Only.trans {ws : List Nat} {σ σ1 σ2 : St} (a : Only ws σ σ1) (b : Only ws σ1 σ2) : Only ws σ σ2 := ⟨b.1.trans a.1, fun j h => (b.2 j h).trans (a.2 j h)⟩
theorem Only.set {ws : List Nat} {σ : St} {i : Nat} {v : Option V} (h : i ∈ ws) : Only ws σ (σ.set i v) := ⟨by simp, fun j hj => List.getElem?_set_ne (fun z : i = j => hj (z ▸ h))⟩
def liftG (X : Cx) (L : Lv) (ws : List Nat) (fg : FG) : TG := fun v σ H Q => ∃ Z Y s d Qf, Rel X.K Z Y H σ s ∧ L.keeps σ ∧ Rp X.K Z v d ∧ fg d s Qf ∧ ∀ σ' s', L.keeps σ' → Only ws σ σ' → Rel X.K Z Y H σ' s' → Qf s' → Q σ' H
def liftGs (X : Cx) (L : Lv) (ws : List Nat) (fg : List D → S → (S → Prop) → Prop) : TGs := fun vs σ H Q => ∃ Z Y s ds Qf, Rel X.K Z Y H σ s ∧ L.keeps σ ∧ RpAll X.K Z vs ds ∧ fg ds s Qf ∧ ∀ σ' s', L.keeps σ' → Only ws σ σ' → Rel X.K Z Y H σ' s' → Qf s' → Q σ' H
def PFG (X : Cx) (L : Lv) (ws : List Nat) (e : Expr) (fg : FG) : Prop := PG X e (liftG X L ws fg)
def PFGs (X : Cx) (L : Lv) (ws : List Nat) (es : List Expr) (fgs : List FG) : Prop := PGs X es (liftGs X L ws (gTp.gTps fgs))
variable {ws : List Nat}
theorem PG_imp {t t' : TG} (h : PG X e t) (hi : ∀ v σ H Q, t' v σ H Q → t v σ H Q) : PG X e t' := ⟨fun pins s σ H v u Q I r q => h.run pins s σ H v u Q I r (hi v σ H Q q)⟩
theorem PGs_imp {t t' : TGs} (h : PGs X es t) (hi : ∀ v σ H Q, t' v σ H Q → t v σ H Q) : PGs X es t' := ⟨fun pins s σ H v u Q I r q => h.run pins s σ H v u Q I r (hi v σ H Q q)⟩
theorem pfg_nm {i : Nat} {x : Str} (hN : X.N.Nodup) (hi : X.N[i]? = some x := by rfl) (hx : Loc X.env.scope x := by first | exact Or.inl rfl | exact Or.inr rfl) (hio : i ∉ L.io := by exact of_decide_eq_true rfl) (hws : i ∈ ws := by decide) (hf : X.fn x = true ∨ X.env.scope.names.lookup x = some .local := by first | exact .inl rfl | exact .inr rfl) : PFG X L ws (.Name x pos) (gNm i) :=
  PG_imp (pg_name hN hi hx hf) fun v σ H Q ⟨Z, Y, s, d, Qf, r, k, rp, h, q⟩ => q _ _ (L.keeps_set k hio) (.set hws) (Rel.put (r.pushD rp) r.len i) h
theorem pfgs_nil : PFGs X L ws [] [] := PGs_imp pgs_nil fun vs σ H Q ⟨Z, Y, s, ds, Qf, r, k, rp, h, q⟩ => by
  cases rp with
  | nil => exact ⟨rfl, q σ s k .refl r h⟩
  | cons _ _ => exact h.elim
theorem pfgs_cons {fg : FG} {fgs : List FG} (h1 : PFG X L ws e fg) (h2 : PFGs X L ws es fgs) (hs : (assignEach (e :: es) X.env).map (·.2) = assign e X.env :: (assignEach es X.env).map (·.2) := by rfl) : PFGs X L ws (e :: es) (fg :: fgs) :=
  PGs_imp (pgs_cons h1 h2 hs) fun vs σ H Q ⟨Z, Y, s, ds, Qf, r, k, rp, h, q⟩ => by
  cases rp with
  | nil => exact h.elim
  | cons rd ra =>
    refine ⟨_, _, rfl, Z, Y, s, _, _, r, k, rd, h, fun σ1 s1 k1 o1 r1 h1 => ?_⟩
    exact ⟨Z, Y, s1, _, Qf, r1, k1, ra, h1, fun σ2 s2 k2 o2 => q σ2 s2 k2 (o1.trans o2)⟩
/-- a tuple's target takes as many things as it has names -/
def TpLen (fgs : List FG) : Prop := ∀ ds s k, gTp.gTps fgs ds s k → ds.length = fgs.length
theorem tp2 {i j : Nat} : TpLen [gNm i, gNm j] := fun ds s k h => by
  match ds, h with
  | [_, _], _ => rfl
  | [], h => exact h.elim
  | [_], h => exact h.elim
  | _ :: _ :: _ :: _, h => exact h.elim
theorem tp3 {i j l : Nat} : TpLen [gNm i, gNm j, gNm l] := fun ds s k h => by
  match ds, h with
  | [_, _, _], _ => rfl
  | [], h => exact h.elim
  | [_], h => exact h.elim
  | [_, _], h => exact h.elim
  | _ :: _ :: _ :: _ :: _, h => exact h.elim
theorem pfg_tup {x1 : Nat} {fgs : List FG} (hc : X.calm = true) (h : PFGs X L ws es fgs) (hn : (assignEach es X.env).length = fgs.length := by rfl) (hst : (assignEach es X.env).findIdx? (·.1) = none := by rfl)
    (hlen : TpLen fgs) : PFG X L ws (.Tuple es x1 pos) (gTp fgs) :=
  PG_imp (pg_tup hc h hn hst) fun v σ H Q ⟨Z, Y, s, d, Qf, r, k, rp, h, q⟩ => by
  cases rp with
  | tup hs hz ra => exact ⟨_, _, rfl, tupSq (r.zh _ _ hs), (by rw [ra.length]; exact hlen _ _ _ h), Z, Y, s, _, Qf, r, k, ra, h, q⟩
  | _ => exact h.elim
/-- a, b = e -/
theorem pfs_unp {tg : Expr} {fg : FG} (he : PF X L e fa) (hg : PFG X L ws tg fg) (hs : swapsWithSole [tg] e pos.line X.env = pure false := by rfl) (hw : swappedStores [tg] e X.env = pure none := by rfl)
    (h1 : (assignEach [tg] X.env).map (·.2) = [assign tg X.env] := by rfl) : PFS X L (.Assign [tg] e pos) (fUnp fg fa) := PS_imp (ps_asg he hg hs hw h1) fun D σ H ⟨Z, Y, s, Ef, r, k, h, eo⟩ => by
  refine ⟨Z, Y, s, Ef.xx, _, r, k, eo.xx, h, fun v H1 Z1 r1 s1 hz rx h1 => ?_⟩
  obtain ⟨Z2, d, s2, hz2, rx2, h2⟩ := frz_ok (us := []) (ds := []) (vs := []) (rs := []) rx rfl h1
  exact ⟨Z2, Y, s2, d, _, rx2.rel0, k, rx2.vd, h2, fun σ' s' k' _ r' h' => eo.nx σ' H1 Z2 s' (hz.trans hz2) k' r' h'⟩
end
end Hs
namespace Hs
open PySem PySem.Spec PyProof.Rows L2
section
variable {X : Cx} {L : Lv} {e a b c : Expr} {es : List Expr} {fa fb fc : FE} {ft fu : FT} {fr : FA} {pos p : Pos} {ws : List Nat}
structure Walks (K : PySem.W.Frag) (Z : Hp) (J : It) (xs : List D) : Prop where
  stop : ∀ i H, Same Z H → xs.length ≤ i → J.stop i H
  go : ∀ i H, Same Z H → i < xs.length → J.go i H
  yld : ∀ (i : Nat) H v H' Zc, Same Z Zc → Same Zc H → i < xs.length → J.yld i H v H' → ∃ d Z', xs[i]? = some d ∧ NewR K Zc H Z' H' v (.d d)
def liftI (X : Cx) (L : Lv) (fi : FI) : TI := fun σ H R => ∃ Z Y s Xf Qf, Rel X.K Z Y H σ s ∧ L.keeps σ ∧ XOk X L Z Y Xf ∧ fi Xf s Qf ∧ ∀ J H' Z' s' xs, Same Z Z' → Rel X.K Z' Y H' σ s' → Walks X.K Z' J xs → Qf xs s' → R J H'
def PFI (X : Cx) (L : Lv) (tg e : Expr) (fi : FI) : Prop := PI X tg e (liftI X L fi)
theorem PI_imp {tg : Expr} {t t' : TI} (h : PI X tg e t) (hi : ∀ σ H R, t' σ H R → t σ H R) : PI X tg e t' := ⟨fun pins s σ H R I q => h.run pins s σ H R I (hi σ H R q)⟩
def iSq (K : PySem.W.Frag) (tl : TE) : TI := fun σ H R => tl σ H fun x H1 => ∃ a, x = .ref a ∧ (((∃ xs, SqL K H1 a xs) ∧ R (Itl K a) H1) ∨ ((∃ xs, SqT K H1 a xs) ∧ R (Itt K a) H1))
theorem pi_sq {tg l : Expr} {tl : TE} (hl : PE X l tl) : PI X tg l (iSq X.K tl) := by
  refine ⟨fun pins s σ H R I h => ?_⟩
  refine thn (hl.run pins s σ H _ I h) fun v s1 ⟨x, H1, I1, r1, q1⟩ => ?_
  obtain ⟨a, e, q⟩ := q1
  subst e
  cases r1
  have one : ∀ {b : Addr}, b ∈ [s1.heap.objs.size] → b = s1.heap.objs.size := fun hb => by simpa using hb
  rcases q with ⟨⟨xs, hq⟩, q⟩ | ⟨⟨xs, hq⟩, q⟩
  · obtain ⟨its, rv, p, hz⟩ := I1.list hq
    refine wpAny_pyIter_list p.isList ?_
    refine ⟨s1.heap.objs.size, [s1.heap.objs.size], _, _, H1, rfl, I1.kept (t' := s1.toks) fun b o e => Heap.get?_push_of_some _ e, turn_list a _, ⟨_, Heap.get?_push_size _ rfl, rfl, rfl⟩, fun b hb => ?_, q⟩
    rw [one hb]
    exact I1.fpOk (Nat.le_refl _) (I1.hok.fresh (Nat.le_refl _))
  · obtain ⟨its, rv, p, hz⟩ := I1.tuple hq
    refine wpAny_pyIter_tuple (show s1.heap.IsTuple a its.toArray from p) ?_
    refine ⟨s1.heap.objs.size, [s1.heap.objs.size], _, _, H1, rfl, I1.kept (t' := s1.toks) fun b o e => Heap.get?_push_of_some _ e, turn_tuple a _, ⟨_, Heap.get?_push_size _ rfl, rfl, rfl⟩, fun b hb => ?_, q⟩
    rw [one hb]
    exact I1.fpOk (Nat.le_refl _) (I1.hok.fresh (Nat.le_refl _))
theorem walks_list {K : PySem.W.Frag} {Z : Hp} {a : Addr} {vs : List V} {xs : List D} (h : SqL K Z a vs) (r : RpAll K Z vs xs) : Walks K Z (Itl K a) xs where
  stop := fun i H e hi => ⟨vs, e.seq h, by rw [r.length]; exact hi⟩
  go := fun i H e hi => ⟨vs, vs[i]'(by rw [r.length]; exact hi), e.seq h, by simp⟩
  yld := fun i H v H' Zc e1 e2 hi ⟨eh, hv⟩ => by
    subst eh
    obtain ⟨d, hd, rd⟩ := r.getV (hv vs ((e1.trans e2).seq h))
    exact ⟨d, Zc, hd, .d e2 (rd.same e1)⟩
theorem walks_tup {K : PySem.W.Frag} {Z : Hp} {a : Addr} {vs : List V} {xs : List D} (h : SqT K Z a vs) (r : RpAll K Z vs xs) : Walks K Z (Itt K a) xs where
  stop := fun i H e hi => ⟨vs, same_sqT e h, by rw [r.length]; exact hi⟩
  go := fun i H e hi => ⟨vs, vs[i]'(by rw [r.length]; exact hi), same_sqT e h, by simp⟩
  yld := fun i H v H' Zc e1 e2 hi ⟨eh, hv⟩ => by
    subst eh
    obtain ⟨d, hd, rd⟩ := r.getV (hv vs (same_sqT (e1.trans e2) h))
    exact ⟨d, Zc, hd, .d e2 (rd.same e1)⟩
theorem rangeD_get {lo : Int} {n i : Nat} (h : i < n) : (rangeD lo n)[i]? = some (.int (lo + (i : Int))) := by
  unfold rangeD
  rw [List.getElem?_map, List.getElem?_range h]; rfl
theorem rangeD_len {lo : Int} {n : Nat} : (rangeD lo n).length = n := by unfold rangeD; rw [List.length_map, List.length_range]
theorem walks_range {K : PySem.W.Frag} {Z : Hp} {lo : Int} {n : Nat} : Walks K Z (Itr lo n) (rangeD lo n) where
  stop := fun i H e hi => by rw [rangeD_len] at hi; exact hi
  go := fun i H e hi => by rw [rangeD_len] at hi; exact hi
  yld := fun i H v H' Zc e1 e2 hi ⟨eh, hv⟩ => by
    subst eh hv
    rw [rangeD_len] at hi
    exact ⟨_, Zc, rangeD_get hi, .d e2 (.int _)⟩
theorem pfi_seq {tg : Expr} (he : PF X L e fa) : PFI X L tg e (iSeq fa) := PI_imp (pi_sq he) fun σ H R ⟨Z, Y, s, Xf, Qf, r, k, xo, h, q⟩ => by
  refine ⟨Z, Y, s, Xf, _, r, k, xo, h, fun v H1 Z1 r1 s1 hz rx h1 => ?_⟩
  obtain ⟨Z2, d, s2, hz2, rx2, h2⟩ := frz_ok (us := []) (ds := []) (vs := []) (rs := []) rx rfl h1
  have rv := rx2.vd
  cases rv with
  | lst hs hl ra => exact ⟨_, rfl, .inl ⟨⟨_, .inl (same_rd rx2.rel0.zh hs)⟩, q _ H1 Z2 s2 _ (hz.trans hz2) rx2.rel0 (walks_list (.inl hs) ra) h2⟩⟩
  | tup hs hl ra => exact ⟨_, rfl, .inr ⟨⟨_, tupSq (rx2.rel0.zh _ _ hs)⟩, q _ H1 Z2 s2 _ (hz.trans hz2) rx2.rel0 (walks_tup (tupSq hs) ra) h2⟩⟩
  | _ => exact h2.elim
theorem pfi_range1 {tg : Expr} (hg : Gl X "range") (hm : X.mg "range" = none) (ha : PFA X L [a] fr) (hs : starEach [a] X.env = [(false, eval a X.env)] := by rfl) : PFI X L tg (.Call (.Name "range" p) [a] [] pos) (iRange1 fr) :=
  PI_imp (pi_range1 hg hm ha hs) fun σ H R ⟨Z, Y, s, Xf, Qf, r, k, xo, h, q⟩ => by
  refine ⟨Z, Y, s, Xf, _, r, k, xo, h, fun vs H1 Z1 rs s1 hz rx hn h1 => ?_⟩
  split at h1
  · rename_i j
    obtain ⟨hj, h2⟩ := h1
    have rv := RelX.rps (ds := [.int j]) rx
    cases rv with
    | cons r1 r2 =>
      cases r1; cases r2
      exact ⟨j, rfl, hj.1, hj.2, q _ H1 Z1 s1 _ hz rx.rel0 walks_range h2⟩
  · exact h1.elim
theorem pfi_range2 {tg : Expr} (hg : Gl X "range") (hm : X.mg "range" = none) (ha : PFA X L [a, b] fr) (hs : starEach [a, b] X.env = [(false, eval a X.env), (false, eval b X.env)] := by rfl) (hs2 : starEach [b] X.env = [(false, eval b X.env)] := by rfl) : PFI X L tg (.Call (.Name "range" p) [a, b] [] pos) (iRange2 fr) :=
  PI_imp (pi_range2 hg hm ha hs hs2) fun σ H R ⟨Z, Y, s, Xf, Qf, r, k, xo, h, q⟩ => by
  refine ⟨Z, Y, s, Xf, _, r, k, xo, h, fun vs H1 Z1 rs s1 hz rx hn h1 => ?_⟩
  split at h1
  · rename_i i j
    obtain ⟨hi, hj, h2⟩ := h1
    have rv := RelX.rps (ds := [.int i, .int j]) rx
    cases rv with
    | cons r1 r2 =>
      cases r2 with
      | cons r2 r3 =>
        cases r1; cases r2; cases r3
        exact ⟨i, j, rfl, ⟨hi.1, hi.2, hj.1, hj.2⟩, q _ H1 Z1 s1 _ hz rx.rel0 walks_range h2⟩
  · exact h1.elim
theorem wipe_get (σ : St) : ∀ (vs : List Nat) (j : Nat), (wipe σ vs).getD j none = if j ∈ vs then none else σ.getD j none
  | [], j => by simp [wipe]
  | v :: vs, j => by
    unfold wipe
    by_cases h : v = j
    · subst h
      simp only [List.mem_cons, true_or, if_true]
      by_cases hv : v < (wipe σ vs).length
      · exact getD_set_self hv
      · exact getD_out (by simpa using hv)
    · rw [getD_set_ne h, wipe_get σ vs j]
      have : (j ∈ v :: vs) ↔ j ∈ vs := by simp [Ne.symm h]
      simp only [this]
theorem wipeS_len : ∀ (vs : List Nat) (s : S), (wipeS s vs).length = s.length
  | [], s => rfl
  | v :: vs, s => by unfold wipeS; rw [wipeS_len vs, List.length_set]
theorem wipeS_get : ∀ (vs : List Nat) (s : S) (j : Nat), (wipeS s vs).getD j .no = if j ∈ vs then .no else s.getD j .no
  | [], s, j => by simp [wipeS]
  | v :: vs, s, j => by
    unfold wipeS
    rw [wipeS_get vs]
    by_cases hj : j ∈ vs
    · rw [if_pos hj, if_pos (List.mem_cons_of_mem _ hj)]
    · rw [if_neg hj]
      by_cases h : v = j
      · subst h
        rw [if_pos List.mem_cons_self]
        by_cases hv : v < s.length
        · exact getD_set_self hv
        · exact getD_out (by simpa using hv)
      · rw [getD_set_ne h, if_neg (by simp [hj, Ne.symm h])]
theorem Rel.wipeS {K : PySem.W.Frag} {Z Y H : Hp} {σ : St} {s : S} (r : Rel K Z Y H σ s) (vs : List Nat) : Rel K Z Y H σ (wipeS s vs) :=
  r.re (fun k => if k ∈ vs then none else some k) (by rw [wipeS_len]; exact r.len) (fun k => by
    by_cases h : k ∈ vs
    · simp only [if_pos h]
      exact .inl (by rw [wipeS_get, if_pos h])
    · simp only [if_neg h]
      exact ⟨by rw [wipeS_get, if_neg h], trivial⟩) (fun k k' j h h' => by
    by_cases a : k ∈ vs
    · rw [if_pos a] at h; cases h
    · by_cases b : k' ∈ vs
      · rw [if_pos b] at h'; cases h'
      · rw [if_neg a] at h; rw [if_neg b] at h'; cases h; cases h'; rfl)
variable {f1 f2 : FS} {wp : List Nat}
theorem pfs_for {tg iter : Expr} {body : List Stmt} {fi : FI} {fg : FG} (hp : PassesOwn (model X.prog X.w) X.A X.env X.xe) (hc : X.calm = true) (hi : PFI X L tg iter fi) (hg : PFG X L ws tg fg) (hb : PFSs X L body f1)
    (hs : ∀ x, foldedSetIterable iter X.env x = pure x := by intro _; rfl) : PFS X L (.For tg iter body [] pos) (fFor fi fg wp f1) := PS_imp (ps_for hp hc hi hg hb hs) fun D σ H ⟨Z, Y, s, Ef, r, k, h, eo⟩ => by
  refine ⟨Z, Y, s, Ef.xx, _, r, k, eo.xx, h, fun J H1 Z1 s1 xs hz rl wk hloop => ?_⟩
  refine ⟨fun i m σ' H' => ∃ Z' s', Same Z1 Z' ∧ Rel X.K Z' Y H' σ' s' ∧ L.keeps σ' ∧ m = xs.length - i ∧ i ≤ xs.length ∧ fLoop fg wp f1 Ef (xs.drop i) s', ⟨xs.length, Z1, _, Same.refl _, rl.wipeS wp, k, rfl, Nat.zero_le _, hloop⟩, ?_⟩
  rintro i m σ' H' ⟨Z', s', hz', r', k', rfl, hle, hl⟩
  by_cases hlt : i < xs.length
  · refine .inr ⟨wk.go i H' (hz'.trans r'.zh) hlt, fun σ2 H2 => ∃ Z2 s2, Same Z' Z2 ∧ Rel X.K Z2 Y H2 σ2 s2 ∧ L.keeps σ2 ∧ fLoop fg wp f1 Ef (xs.drop (i + 1)) (wipeS s2 wp), fun σ2 H2 ⟨Z2, s2, hz2, r2, k2, h2⟩ => ⟨xs.length - (i + 1), by omega, Z2, _, hz'.trans hz2, r2.wipeS wp, k2, rfl, hlt, h2⟩, fun x H2 hy => ?_⟩
    obtain ⟨d, Z2, hd, n⟩ := wk.yld i H' x H2 Z' hz' r'.zh hlt hy
    have ed : xs.drop i = d :: xs.drop (i + 1) := by
      obtain ⟨h1, h2⟩ := List.getElem?_eq_some_iff.mp hd
      rw [List.drop_eq_getElem_cons hlt, h2]
    rw [ed] at hl
    have r2 : Rel X.K Z2 Y H2 σ' s' := r'.growE n.hh n.hz n.zh n.old
    refine ⟨Z2, Y, s', d, _, r2, k', n.val, hl, fun σ3 s3 k3 _ r3 h3 => ?_⟩
    refine ⟨Z2, Y, s3, _, r3, k3, h3, ⟨fun σ4 H4 Z4 s4 hz4 k4 r4 h4 => ⟨Z4, s4, n.hz.trans hz4, r4, k4, h4⟩, fun v σ4 H4 Z4 r0 s4 hz4 k4 rx4 h4 => eo.rt v σ4 H4 Z4 r0 s4 (((hz.trans hz').trans n.hz).trans hz4) k4 rx4 h4,
      fun σ4 H4 Z4 s4 hz4 k4 r4 h4 => eo.nx σ4 H4 Z4 _ (((hz.trans hz').trans n.hz).trans hz4) k4 (r4.wipeS wp) h4, fun σ4 H4 Z4 s4 hz4 k4 r4 h4 => ⟨Z4, s4, n.hz.trans hz4, r4, k4, h4⟩, eo.xx.z ((hz.trans hz').trans n.hz)⟩⟩
  · have ei : i = xs.length := by omega
    subst ei
    rw [List.drop_length] at hl
    exact .inl ⟨wk.stop _ H' (hz'.trans r'.zh) (Nat.le_refl _), eo.nx σ' H' Z' s' (hz.trans hz') k' r' hl⟩
theorem pfs_while {body : List Stmt} (hp : PassesOwn (model X.prog X.w) X.A X.env X.xe) (hc : PFT X L c ft) (hb : PFSs X L body f1) : PFS X L (.While c body [] pos) (fWhile wp ft f1) := PS_imp (ps_while hp hc hb) fun D σ H ⟨Z, Y, s, Ef, r, k, ⟨n, h⟩, eo⟩ => by
  refine ⟨fun m σ' H' => ∃ Z' s', Same Z Z' ∧ Rel X.K Z' Y H' σ' s' ∧ L.keeps σ' ∧ fWhileN wp ft f1 Ef m s', ⟨n, Z, _, Same.refl _, r.wipeS wp, k, h⟩, ?_⟩
  rintro m σ' H' ⟨Z', s', hz', r', k', hl⟩
  cases m with
  | zero => exact hl.elim
  | succ m =>
    refine ⟨Z', Y, s', Ef.xx, _, r', k', eo.xx.z hz', hl, fun d H1 Z1 s1 hz1 r1 h1 => ?_⟩
    cases d with
    | false => exact eo.nx σ' H1 Z1 s1 (hz'.trans hz1) k' r1 h1
    | true =>
      simp only [if_true] at h1 ⊢
      refine ⟨fun σ2 H2 => ∃ Z2 s2, Same Z1 Z2 ∧ Rel X.K Z2 Y H2 σ2 s2 ∧ L.keeps σ2 ∧ fWhileN wp ft f1 Ef m (wipeS s2 wp), fun σ2 H2 ⟨Z2, s2, hz2, r2, k2, h2⟩ => ⟨m, Nat.lt_succ_self m, Z2, _, (hz'.trans hz1).trans hz2, r2.wipeS wp, k2, h2⟩, ?_⟩
      exact ⟨Z1, Y, s1, _, r1, k', h1, ⟨fun σ4 H4 Z4 s4 hz4 k4 r4 h4 => ⟨Z4, s4, hz4, r4, k4, h4⟩, fun v σ4 H4 Z4 r0 s4 hz4 k4 rx4 h4 => eo.rt v σ4 H4 Z4 r0 s4 ((hz'.trans hz1).trans hz4) k4 rx4 h4,
        fun σ4 H4 Z4 s4 hz4 k4 r4 h4 => eo.nx σ4 H4 Z4 _ ((hz'.trans hz1).trans hz4) k4 (r4.wipeS wp) h4, fun σ4 H4 Z4 s4 hz4 k4 r4 h4 => ⟨Z4, s4, hz4, r4, k4, h4⟩, eo.xx.z (hz'.trans hz1)⟩⟩
theorem wipe_only {σ σ' : St} {vs : List Nat} (o : Only vs σ σ') : wipe σ' vs = wipe σ vs := by
  refine List.ext_getElem? fun j => ?_
  have g : ∀ τ : St, (wipe τ vs)[j]? = if j < τ.length then some (if j ∈ vs then none else τ.getD j none) else none := fun τ => by
    by_cases h : j < τ.length
    · rw [if_pos h]
      have q := wipe_get τ vs j
      rw [List.getD_eq_getElem?_getD, List.getElem?_eq_getElem (by rw [wipe_length]; exact h)] at q
      rw [List.getElem?_eq_getElem (by rw [wipe_length]; exact h)]
      exact congrArg some q
    · rw [if_neg h, List.getElem?_eq_none (by rw [wipe_length]; omega)]
  rw [g, g, o.1]
  by_cases h : j ∈ vs
  · simp [h]
  · simp only [h, if_false]
    rw [List.getD_eq_getElem?_getD, List.getD_eq_getElem?_getD, o.2 j h]
theorem wipe_wipe {σ : St} {vs : List Nat} : Only vs σ (wipe σ vs) := ⟨wipe_length σ vs, fun j h => by
  have q := wipe_get σ vs j
  rw [if_neg h, List.getD_eq_getElem?_getD, List.getD_eq_getElem?_getD] at q
  by_cases hj : j < σ.length
  · rw [List.getElem?_eq_getElem (by rw [wipe_length]; exact hj), List.getElem?_eq_getElem hj] at q ⊢
    exact congrArg some q
  · rw [List.getElem?_eq_none (by rw [wipe_length]; omega), List.getElem?_eq_none (by omega)]⟩
/-- the wiped slots hold nothing: whatever stands there -/
theorem Rel.unwipe {K : PySem.W.Frag} {Z Y H : Hp} {σ σ' ts : St} {s us : S} {vs : List Nat} (r : Rel K Z Y H (σ ++ ts) (s ++ us)) (o : Only vs σ σ') (hl : σ.length = s.length) (hn : ∀ j ∈ vs, s.getD j .no = .no) : Rel K Z Y H (σ' ++ ts) (s ++ us) := by
  refine r.re (fun k => if k < σ.length ∧ k ∈ vs then none else some k) (by have := r.len; simp only [List.length_append] at this ⊢; rw [o.1]; exact this) (fun k => ?_) (fun k k' j h h' => ?_)
  · by_cases h : k < σ.length ∧ k ∈ vs
    · simp only [if_pos h]
      exact .inl (by rw [getD_app_lt (by omega)]; exact hn k h.2)
    · simp only [if_neg h]
      refine ⟨trivial, ?_⟩
      by_cases hk : k < σ.length
      · have hv : k ∉ vs := fun z => h ⟨hk, z⟩
        rw [getD_app_lt (by rw [o.1]; exact hk), getD_app_lt hk, List.getD_eq_getElem?_getD, List.getD_eq_getElem?_getD, o.2 k hv]
      · rw [getD_app_ge (by rw [o.1]; omega), getD_app_ge (by omega), o.1]
  · by_cases a1 : k < σ.length ∧ k ∈ vs
    · rw [if_pos a1] at h; cases h
    · by_cases b1 : k' < σ.length ∧ k' ∈ vs
      · rw [if_pos b1] at h'; cases h'
      · rw [if_neg a1] at h; rw [if_neg b1] at h'; cases h; cases h'; rfl
theorem Rel.wipe2 {K : PySem.W.Frag} {Z Y H : Hp} {σ ts : St} {s us : S} (r : Rel K Z Y H (σ ++ ts) (s ++ us)) (hl : σ.length = s.length) (vs : List Nat) : Rel K Z Y H (wipe σ vs ++ ts) (Hs.wipeS s vs ++ us) := by
  refine Rel.unwipe (σ := σ) (vs := vs) ?_ wipe_wipe (by rw [wipeS_len]; exact hl) fun j hj => by rw [wipeS_get, if_pos hj]
  refine r.re (fun k => if k < σ.length ∧ k ∈ vs then none else some k) (by have := r.len; simp only [List.length_append, wipeS_len] at this ⊢; exact this) (fun k => ?_) (fun k k' j h h' => ?_)
  · by_cases h : k < σ.length ∧ k ∈ vs
    · simp only [if_pos h]
      exact .inl (by rw [getD_app_lt (by rw [wipeS_len]; omega), wipeS_get, if_pos h.2])
    · simp only [if_neg h]
      refine ⟨?_, trivial⟩
      by_cases hk : k < σ.length
      · have hv : k ∉ vs := fun z => h ⟨hk, z⟩
        rw [getD_app_lt (by rw [wipeS_len]; omega), getD_app_lt (by omega), wipeS_get, if_neg hv]
      · rw [getD_app_ge (by rw [wipeS_len]; omega), getD_app_ge (by omega), wipeS_len]
  · by_cases a1 : k < σ.length ∧ k ∈ vs
    · rw [if_pos a1] at h; cases h
    · by_cases b1 : k' < σ.length ∧ k' ∈ vs
      · rw [if_pos b1] at h'; cases h'
      · rw [if_neg a1] at h; rw [if_neg b1] at h'; cases h; cases h'; rfl
/-- within a comprehension no error leaves -/
def Lv.in0 (L : Lv) : Lv := { L with E := fun _ _ _ _ => False }
theorem XOk.none {Z Y : Hp} : XOk X L Z Y fun _ _ => False := fun _ _ _ _ _ _ _ _ _ h _ => h.elim
structure PFTs (X : Cx) (L : Lv) (ifs : List Expr) (ft : FT) : Prop where
  h : PTs X ifs (liftT X L ft)
theorem pfts_nil : PFTs X L [] fYes := ⟨⟨fun pins s σ H Q I ⟨Z, Y, s', Xf, Qf, r, k, xo, h, q⟩ => pts_nil.run pins s σ H Q I (q true H Z s' (Same.refl _) r h)⟩⟩
theorem pfts_one {c : Expr} (h : PFT X L c ft) : PFTs X L [c] ft := ⟨pts_one h⟩
/-- what a comprehension does over a thing that is walked -/
theorem lc_run {fg : FG} {vs : List Nat} {σ : St} {H1 Z Z1 Y : Hp} {s1 : S} {J : It} {xs : List D} {Q : VK} {Qf : R → S → Prop} (hv : ∀ j ∈ vs, j ∉ L.io) (k : L.keeps σ) (hz : Same Z Z1) (rl : Rel X.K Z1 Y H1 σ s1) (wk : Walks X.K Z1 J xs) (hsz : xs.length ≤ sizeLine)
    (hcomp : fComp (fun _ _ => False) fg vs ft fa Qf xs [] (wipeS s1 vs)) (q : ∀ u H' Z' r s', Same Z Z' → RelX X.K Z' Y H' σ s' [u] [r] → Qf r s' → Q u H') (D : Addr) (hD : H1 D = none) :
    ∃ W : Nat → Nat → Hp → Prop, (∃ m, W 0 m (upd H1 D (.lst []))) ∧ ∀ i m H, W i m H →
      (J.stop i H ∧ Q (.ref D) H) ∨ (J.go i H ∧ ∃ Nx : Hp → Prop, (∀ H', Nx H' → ∃ m', m' < m ∧ W (i + 1) m' H') ∧ ∀ x H', J.yld i H x H' → liftG X L.in0 vs fg x (wipe σ vs) H' fun σ2 H2 => wipe σ2 vs = wipe σ vs ∧ liftT X L.in0 ft σ2 H2 fun b H3 =>
        if b = true then liftE X L.in0 fa σ2 H3 fun y H4 => ∃ acc, H4 D = some (.lst acc) ∧ acc.length < sizeLine ∧ Nx (upd H4 D (.lst (acc ++ [y]))) else Nx H3) := by
  have kw : L.keeps (wipe σ vs) := ⟨by rw [wipe_length]; exact k.1, fun j hj => by
    rw [wipe_get, if_neg (fun z => hv j z hj)]
    exact k.2 j hj⟩
  refine ⟨fun i m H' => ∃ Z' s' acc avs, Same Z1 Z' ∧ Rel X.K Z' Y H' (wipe σ vs ++ [some (.ref D)]) (s' ++ [.l acc]) ∧ s'.length = σ.length ∧ (∀ j ∈ vs, s'.getD j .no = .no) ∧ H' D = some (.lst avs) ∧ avs.length ≤ i ∧ m = xs.length - i ∧ i ≤ xs.length ∧ fComp (fun _ _ => False) fg vs ft fa Qf (xs.drop i) acc s',
    ⟨xs.length, Z1, wipeS s1 vs, [], [], Same.refl _, Rel.wipe2 (rl.newL (vs := []) (xs := []) hD (Nat.zero_le _) .nil) rl.len vs, by rw [wipeS_len]; exact rl.len.symm, fun j hj => by rw [wipeS_get, if_pos hj], upd_same, Nat.le_refl _, rfl, Nat.zero_le _, hcomp⟩, ?_⟩
  rintro i m H' ⟨Z', s', acc, avs, hz', r', hl', hno, hDl, hal, rfl, hle, hl⟩
  have hl'' : (wipe σ vs).length = s'.length := by rw [wipe_length, hl']
  by_cases hlt : i < xs.length
  · refine .inr ⟨wk.go i H' (hz'.trans r'.zh) hlt, fun H2 => ∃ Z2 s2 acc2 avs2, Same Z' Z2 ∧ Rel X.K Z2 Y H2 (wipe σ vs ++ [some (.ref D)]) (s2 ++ [.l acc2]) ∧ s2.length = σ.length ∧ (∀ j ∈ vs, s2.getD j .no = .no) ∧ H2 D = some (.lst avs2) ∧ avs2.length ≤ i + 1 ∧ fComp (fun _ _ => False) fg vs ft fa Qf (xs.drop (i + 1)) acc2 s2,
      fun H2 ⟨Z2, s2, acc2, avs2, hz2, r2, l2, n2, d2, al2, h2⟩ => ⟨xs.length - (i + 1), by omega, Z2, s2, acc2, avs2, hz'.trans hz2, r2, l2, n2, d2, al2, rfl, hlt, h2⟩, fun x H2 hy => ?_⟩
    obtain ⟨d, Z2, hd, n⟩ := wk.yld i H' x H2 Z' hz' r'.zh hlt hy
    have ed : xs.drop i = d :: xs.drop (i + 1) := by
      obtain ⟨h1, h2⟩ := List.getElem?_eq_some_iff.mp hd
      rw [List.drop_eq_getElem_cons hlt, h2]
    rw [ed] at hl
    have r2 : Rel X.K Z2 Y H2 (wipe σ vs ++ [some (.ref D)]) (s' ++ [.l acc]) := r'.growE n.hh n.hz n.zh n.old
    have hD2 : H2 D = some (.lst avs) := n.hh _ _ hDl
    obtain ⟨Y', hy', rl2, back, held⟩ := r2.frame hl''
    have yD : Y' D = some (.lst avs) := by
      obtain ⟨F, p', v', e1, e2, e3, _⟩ := held 0
      cases e1
      exact e3.trans ((rl2.yh _ _ e3).symm.trans hD2)
    have bk : ∀ Z1 H1 σ1 s1, Same Z2 Z1 → Rel X.K Z1 Y' H1 σ1 s1 → Rel X.K Z1 Y H1 σ1 s1 := fun Z1 H1 σ1 s1 hz q => (back Z1 H1 σ1 s1 hz q).take q.len
    refine ⟨Z2, Y', s', d, _, rl2, kw, n.val, hl, fun σ3 s3 k3 o3 r3 h3 => ⟨(wipe_only o3).trans (wipe_only wipe_wipe), ?_⟩⟩
    refine ⟨Z2, Y', s3, fun _ _ => False, _, r3, k3, XOk.none, h3, fun b H3 Z3 s4 hz3 r4 h4 => ?_⟩
    have e34 : wipe σ3 vs = wipe σ vs := (wipe_only o3).trans (wipe_only wipe_wipe)
    cases b with
    | false =>
      have h4 : fComp (fun _ _ => False) fg vs ft fa Qf (xs.drop (i + 1)) acc (Hs.wipeS s4 vs) := h4
      have b4 := back Z3 H3 _ _ hz3 r4
      have w4 := b4.wipe2 r4.len vs
      rw [e34] at w4
      exact ⟨Z3, Hs.wipeS s4 vs, acc, avs, n.hz.trans hz3, w4, by rw [wipeS_len, ← r4.len, o3.1, wipe_length], fun j hj => by rw [wipeS_get, if_pos hj], r4.yh _ _ yD, Nat.le_succ_of_le hal, h4⟩
    | true =>
      have h4 : fa (fun _ _ => False) s4 fun r s3 => frz r s3 fun d s4 => fComp (fun _ _ => False) fg vs ft fa Qf (xs.drop (i + 1)) (acc ++ [d]) (Hs.wipeS s4 vs) := h4
      refine ⟨Z3, Y', s4, fun _ _ => False, _, r4, k3, XOk.none, h4, fun y H5 Z5 r5 s5 hz5 rx5 h5 => ?_⟩
      have hD5 : H5 D = some (.lst avs) := rx5.rel0.yh _ _ yD
      obtain ⟨Z6, d6, s6, hz6, rx6, h6⟩ := frz_ok (us := []) (ds := []) (vs := []) (rs := []) rx5 rfl h5
      have b6 := back Z6 H5 _ _ ((hz3.trans hz5).trans hz6) rx6.rel0
      refine ⟨avs, hD5, Nat.lt_of_le_of_lt hal (Nat.lt_of_lt_of_le hlt hsz), Z6, Hs.wipeS s6 vs, acc ++ [d6], avs ++ [y], ((n.hz.trans hz3).trans hz5).trans hz6, ?_, by rw [wipeS_len, ← rx6.l1, o3.1, wipe_length], fun j hj => by rw [wipeS_get, if_pos hj], upd_same, by rw [List.length_append]; exact Nat.succ_le_succ hal, h6⟩
      have racc : RpAll X.K Z6 avs acc := by
        obtain ⟨F, q⟩ := b6.slot σ3.length
        rw [getD_app_ge (Nat.le_refl _), getD_app_ge (by rw [rx6.l1]; exact Nat.le_refl _), Nat.sub_self, rx6.l1, Nat.sub_self] at q
        obtain ⟨p', v', e1, e2, e3, e4, e5⟩ := q
        cases e1
        rw [hD5] at e3; cases e3
        exact e5
      have w6 := Rel.write (i := σ3.length) (xs' := acc ++ [d6]) (vs' := avs ++ [y]) b6 (by rw [getD_app_ge (by rw [rx6.l1]; exact Nat.le_refl _), rx6.l1, Nat.sub_self]; rfl) (by rw [getD_app_ge (Nat.le_refl _), Nat.sub_self]; rfl)
        (by rw [List.length_append]; exact Nat.succ_le_of_lt (Nat.lt_of_le_of_lt hal (Nat.lt_of_lt_of_le hlt hsz))) (racc.append (.cons rx6.vd .nil))
      rw [List.set_append_right _ _ (by rw [rx6.l1]; exact Nat.le_refl _), rx6.l1, Nat.sub_self] at w6
      have w7 := Rel.wipe2 w6 rx6.l1 vs
      rw [e34] at w7
      exact w7
  · have ei : i = xs.length := by omega
    subst ei
    rw [List.drop_length] at hl
    have r9 : Rel X.K Z' Y H' (σ ++ [some (.ref D)]) (s' ++ [.l acc]) := Rel.unwipe r' (vs := vs) ⟨(wipe_length σ vs).symm, fun j hj => (wipe_wipe.2 j hj).symm⟩ hl'' hno
    exact .inl ⟨wk.stop _ H' (hz'.trans r'.zh) (Nat.le_refl _), q _ H' Z' _ s' (hz.trans hz') (.own hl'.symm r9) hl⟩
theorem fLc_ok {fi : FI} {fg : FG} {vs : List Nat} {σ : St} {H : Hp} {Q : VK} (hv : ∀ j ∈ vs, j ∉ L.io) (h : liftE X L (fLc fi fg vs ft fa) σ H Q) :
    tLc (liftI X L fi) (liftG X L.in0 vs fg) (liftT X L.in0 ft) (liftE X L.in0 fa) vs σ H Q := by
  obtain ⟨Z, Y, s, Xf, Qf, r, k, xo, h, q⟩ := h
  exact ⟨Z, Y, s, Xf, _, r, k, xo, h, fun J H1 Z1 s1 xs hz rl wk ⟨hsz, hcomp⟩ => fun D hD => lc_run hv k hz rl wk hsz hcomp q D hD⟩
end
end Hs
namespace Hs
open PySem PySem.Spec PyProof.Rows L2
section
variable {X : Cx} {L : Lv} {e a b c : Expr} {es : List Expr} {fa fb fc : FE} {ft fu : FT} {fr : FA} {pos p : Pos} {ws : List Nat}
theorem pf_lc {elt tg iter : Expr} {ifs : List Expr} {scope : Scope} {own : List (Str × Nat)} {fi : FI} {fg : FG} (hc : X.calm = true) (hN : X.N.Nodup) (hi : PFI X L tg iter fi) (ok : BlkOk X.N X.env.scope scope own)
    (hg : ∀ (s : Shared) (H : Hp) (C : Addr) (cl : List (Str × Addr)) (fp : List Addr), PFG (X.blk s H scope (compEnvC scope cl C X.env) fp) L.in0 (own.map fun p : Str × Nat => p.2) tg fg) (ht : ∀ (s : Shared) (H : Hp) (C : Addr) (cl : List (Str × Addr)) (fp : List Addr), PFTs (X.blk s H scope (compEnvC scope cl C X.env) fp) L.in0 ifs ft)
    (he : ∀ (s : Shared) (H : Hp) (C : Addr) (cl : List (Str × Addr)) (fp : List Addr), PF (X.blk s H scope (compEnvC scope cl C X.env) fp) L.in0 elt fa) (hv : ∀ j ∈ (own.map fun p : Str × Nat => p.2), j ∉ L.io := by exact of_decide_eq_true rfl) (hs : ∀ x, foldedSetIterable iter X.env x = pure x := by intro _; rfl) :
    PF X L (.ListComp elt [⟨tg, iter, ifs, 0⟩] scope pos) (fLc fi fg (own.map fun p : Str × Nat => p.2) ft fa) := PE_imp (pe_lc (own := own) (wi := liftI X L fi) (g := liftG X L.in0 (own.map fun p : Str × Nat => p.2) fg) (tt := liftT X L.in0 ft) (te := liftE X L.in0 fa) hc hN hi ok hg (fun s H C cl fp => (ht s H C cl fp).h) he hs) fun σ H Q h => fLc_ok hv h
theorem pfs_setLc {i : Nat} {y : Str} {py : Pos} {elt tg iter : Expr} {ifs : List Expr} {scope : Scope} {own : List (Str × Nat)} {spos : Pos} {fi : FI} {fg : FG} (hc : X.calm = true) (hN : X.N.Nodup)
    (hsw : swapsWith (.ListComp elt [⟨tg, iter, ifs, 0⟩] scope pos) (some (.Name y py)) spos.line X.env = pure true) (hi : PFI X L tg iter fi) (ok : BlkOk X.N X.env.scope scope own)
    (hg : ∀ (s : Shared) (H : Hp) (C : Addr) (cl : List (Str × Addr)) (fp : List Addr), PFG (X.blk s H scope (compEnvC scope cl C X.env) fp) L.in0 (own.map fun p : Str × Nat => p.2) tg fg) (ht : ∀ (s : Shared) (H : Hp) (C : Addr) (cl : List (Str × Addr)) (fp : List Addr), PFTs (X.blk s H scope (compEnvC scope cl C X.env) fp) L.in0 ifs ft)
    (he : ∀ (s : Shared) (H : Hp) (C : Addr) (cl : List (Str × Addr)) (fp : List Addr), PF (X.blk s H scope (compEnvC scope cl C X.env) fp) L.in0 elt fa) (hy : X.N[i]? = some y := by rfl) (hyl : X.env.scope.names.lookup y = some .local := by rfl) (hio : i ∉ L.io := by exact of_decide_eq_true rfl)
    (hv : ∀ j ∈ (own.map fun p : Str × Nat => p.2), j ∉ L.io := by exact of_decide_eq_true rfl) (hs : ∀ x, foldedSetIterable iter X.env x = pure x := by intro _; rfl) :
    PFS X L (.Assign [.Name y py] (.ListComp elt [⟨tg, iter, ifs, 0⟩] scope pos) spos) (fAsg i (fLc fi fg (own.map fun p : Str × Nat => p.2) ft fa)) :=
  PS_imp (ps_setLc (own := own) (wi := liftI X L fi) (g := liftG X L.in0 (own.map fun p : Str × Nat => p.2) fg) (tt := liftT X L.in0 ft) (te := liftE X L.in0 fa) hc hN hy hyl hsw hi ok hg (fun s H C cl fp => (ht s H C cl fp).h) he hs) fun D σ H ⟨Z, Y, s, Ef, r, k, h, eo⟩ => by
  refine fLc_ok (Q := fun x H1 => gName i x σ H1 D.nx) hv ⟨Z, Y, s, Ef.xx, _, r, k, eo.xx, h, fun v H1 Z1 r1 s1 hz rx h1 => ?_⟩
  obtain ⟨Z2, s2, hz2, rl2, h2⟩ := putR_ok rx h1
  exact eo.nx _ H1 Z2 s2 (hz.trans hz2) (L.keeps_set k hio) rl2 h2
/-- a def keeps what its text does; io: the parameters that it may change -/
def liftSp (K : PySem.W.Frag) (mg : Str → Option Value) (io : List Nat) (np : Nat) (sem : FSem) : Sp := fun vs H Q E => ∃ Z Y svs Xf Qf, vs.length = np ∧ Rel K Z Y H (vs.map some) svs ∧ sem svs Xf Qf ∧
  (∀ u H' Z' σ' fin r, Same Z Z' → (∀ k ∈ io, σ'.getD k none = (vs.map some).getD k none) → σ'.length = np → RelX K Z' Y H' σ' fin [u] [r] → (∀ i, r ≠ .top i) → Qf r fin → Q u H') ∧
  (∀ n C H' Z' σ' fin, Same Z Z' → (∀ k ∈ io, σ'.getD k none = (vs.map some).getD k none) → σ'.length = np → Rel K Z' Y H' σ' fin → Xf n fin → mg n = some (.ref C) → E (.ref C) none H')
theorem app_set {α : Type} (a b : List α) (w x : α) (t : List α) : a ++ (b ++ x :: t) = (a ++ (b ++ w :: t)).set (a.length + b.length) x := by
  rw [List.set_append_right _ _ (by omega), Nat.add_sub_cancel_left, List.set_append_right _ _ (Nat.le_refl _), Nat.sub_self]; rfl
theorem bindA_ok {K : PySem.W.Frag} {Y H : Hp} {σ : St} : ∀ {ms : List Bool} {rs : List R} {vs us : List V} {ds : S} {Z : Hp} {s : S} {k : List SV → S → Prop},
    Rel K Z Y H (σ ++ (us ++ vs).map some) (s ++ (ds ++ rs.map svR)) → σ.length = s.length → us.length = ds.length → vs.length = rs.length → (∀ (j i : Nat), rs[j]? = some (R.top i) → i < σ.length ∧ σ.getD i none = vs[j]?) → bindA ms rs s k →
    ∃ Z' svs s', Same Z Z' ∧ Rel K Z' Y H (σ ++ (us ++ vs).map some) (s' ++ (ds ++ svs)) ∧ s'.length = s.length ∧ svs.length = vs.length ∧ ms.length = rs.length ∧ k svs s'
  | [], [], [], us, ds, Z, s, k, r, hl, hu, hv, tp, h => ⟨Z, [], s, Same.refl _, r, rfl, rfl, rfl, h⟩
  | [], [], _ :: _, us, ds, Z, s, k, r, hl, hu, hv, tp, h => by cases hv
  | [], _ :: _, vs, us, ds, Z, s, k, r, hl, hu, hv, tp, h => h.elim
  | true :: _, [], vs, us, ds, Z, s, k, r, hl, hu, hv, tp, h => h.elim
  | false :: _, [], vs, us, ds, Z, s, k, r, hl, hu, hv, tp, h => h.elim
  | m :: ms, r0 :: rs, [], us, ds, Z, s, k, r, hl, hu, hv, tp, h => by cases hv
  | m :: ms, r0 :: rs, v :: vs, us, ds, Z, s, k, r, hl, hu, hv, tp, h => by
    have tp' : ∀ (j i : Nat), rs[j]? = some (R.top i) → i < σ.length ∧ σ.getD i none = vs[j]? := fun j i e => tp (j + 1) i e
    have hl2 := r.len
    have ev : (us ++ v :: vs) = (us ++ [v]) ++ vs := by simp
    have go : ∀ {Z1 : Hp} {w : SV} {s1 : S} {k1 : List SV → S → Prop}, Same Z Z1 → s1.length = s.length → Rel K Z1 Y H (σ ++ (us ++ v :: vs).map some) (s1 ++ (ds ++ w :: rs.map svR)) → bindA ms rs s1 k1 → (∀ svs s', k1 svs s' → k (w :: svs) s') →
        ∃ Z' svs s', Same Z Z' ∧ Rel K Z' Y H (σ ++ (us ++ v :: vs).map some) (s' ++ (ds ++ svs)) ∧ s'.length = s.length ∧ svs.length = (v :: vs).length ∧ (m :: ms).length = (r0 :: rs).length ∧ k svs s' := by
      intro Z1 w s1 k1 hz1 hl1 r1 h1 hk
      have e2 : ds ++ w :: rs.map svR = (ds ++ [w]) ++ rs.map svR := by simp
      rw [ev, e2] at r1
      obtain ⟨Z', svs, s', hz, r2, hls, hlv, hlm, hk2⟩ := bindA_ok r1 (by rw [hl1]; exact hl) (by simp [hu]) (by simpa using hv) tp' h1
      refine ⟨Z', w :: svs, s', hz1.trans hz, ?_, hls.trans hl1, by simp [hlv], by simp [hlm], hk _ _ hk2⟩
      rw [ev]
      simpa using r2
    have ix : ∀ (w : SV) (t : S), (s ++ (ds ++ w :: t)).getD (s.length + ds.length) .no = w := fun w t => by
      rw [getD_app_ge (by omega), Nat.add_sub_cancel_left, getD_app_ge (Nat.le_refl _), Nat.sub_self]; rfl
    have iv : (σ ++ (us ++ v :: vs).map some).getD (s.length + ds.length) none = some v := by
      rw [← hl, ← hu, getD_app_ge (by omega), Nat.add_sub_cancel_left, List.map_append, getD_app_ge (by simp), List.length_map, Nat.sub_self]; rfl
    -- the k-th argument's content is exchanged: by a value that nobody changes
    have byD : ∀ {Z1 : Hp} {s1 : S} {w : SV} {x : D}, s1.length = s.length → Rel K Z1 Y H (σ ++ (us ++ v :: vs).map some) (s1 ++ (ds ++ w :: rs.map svR)) → Rp K Z1 v x → Rel K Z1 Y H (σ ++ (us ++ v :: vs).map some) (s1 ++ (ds ++ .d x :: rs.map svR)) := by
      intro Z1 s1 w x hl1 r1 rp
      refine r1.re (fun k => if k = s.length + ds.length then none else some k) (by have := r1.len; simpa using this) (fun k => ?_) (fun k k' j h h' => ?_)
      · by_cases hk : k = s.length + ds.length
        · simp only [if_pos hk]
          refine .inr ⟨x, v, ?_, by rw [hk]; exact iv, rp⟩
          rw [hk, ← hl1, getD_app_ge (by omega), Nat.add_sub_cancel_left, getD_app_ge (Nat.le_refl _), Nat.sub_self]; rfl
        · simp only [if_neg hk]
          refine ⟨?_, trivial⟩
          rw [app_set s1 ds w (.d x) (rs.map svR), hl1, getD_set_ne (Ne.symm hk)]
      · by_cases e1 : k = s.length + ds.length
        · rw [if_pos e1] at h; cases h
        · by_cases e2 : k' = s.length + ds.length
          · rw [if_pos e2] at h'; cases h'
          · rw [if_neg e1] at h; rw [if_neg e2] at h'; cases h; cases h'; rfl
    cases m with
    | false =>
      cases r0 with
      | d x => exact go (Same.refl _) rfl r h fun _ _ q => q
      | own w =>
        have h : (match asD w with | some x => bindA ms rs s fun svs s2 => k (.d x :: svs) s2 | none => False) := h
        cases e : asD w with
        | none => rw [e] at h; exact h.elim
        | some x =>
          rw [e] at h
          obtain ⟨Z1, hz1, r1⟩ := r.freeze (i := s.length + ds.length) (x := x) (by rw [show ((R.own w :: rs).map svR) = w :: rs.map svR from rfl, ix]; exact e)
          have es : (s ++ (ds ++ (R.own w :: rs).map svR)).set (s.length + ds.length) (.d x) = s ++ (ds ++ .d x :: rs.map svR) := by
            rw [List.set_append_right _ _ (by omega), Nat.add_sub_cancel_left, List.set_append_right _ _ (Nat.le_refl _), Nat.sub_self]; rfl
          rw [es] at r1
          exact go hz1 rfl r1 h fun _ _ q => q
      | top i =>
        have h : (match asD (s.getD i .no) with | some x => bindA ms rs (s.set i (.d x)) fun svs s2 => k (.d x :: svs) s2 | none => False) := h
        cases e : asD (s.getD i .no) with
        | none => rw [e] at h; exact h.elim
        | some x =>
          rw [e] at h
          obtain ⟨hi, hvi⟩ := tp 0 i rfl
          have his : i < s.length := by omega
          obtain ⟨Z1, hz1, r1⟩ := r.freeze (i := i) (x := x) (by rw [getD_app_lt his]; exact e)
          rw [List.set_append_left _ _ his] at r1
          have rp : Rp K Z1 v x := by
            obtain ⟨F, q⟩ := r1.slot i
            rw [getD_app_lt hi, getD_app_lt (by rw [List.length_set]; exact his), getD_set_self his, hvi] at q
            obtain ⟨_, u, e1, rp⟩ := q
            cases e1
            exact rp
          exact go hz1 (by rw [List.length_set]) (byD (by rw [List.length_set]) r1 rp) h fun _ _ q => q
    | true =>
      cases r0 with
      | d x => exact go (Same.refl _) rfl r h fun _ _ q => q
      | own w => exact go (Same.refl _) rfl r h fun _ _ q => q
      | top i =>
        obtain ⟨hi, hvi⟩ := tp 0 i rfl
        have his : i < s.length := by omega
        have h : bindA ms rs (s.set i .no) fun svs s2 => k (s.getD i .no :: svs) s2 := h
        refine go (w := s.getD i .no) (s1 := s.set i .no) (Same.refl _) (by rw [List.length_set]) ?_ h fun _ _ q => q
        -- the content moves from the slot to the argument
        refine r.re (fun k => if k = s.length + ds.length then some i else if k = i then none else some k) (by have := r.len; simpa using this) (fun k => ?_) (fun k k' j h h' => ?_)
        · by_cases hk : k = s.length + ds.length
          · simp only [if_pos hk]
            refine ⟨?_, ?_⟩
            · rw [hk, getD_app_lt his, getD_app_ge (by rw [List.length_set]; omega), List.length_set, Nat.add_sub_cancel_left, getD_app_ge (Nat.le_refl _), Nat.sub_self]; rfl
            · rw [hk, iv, getD_app_lt hi, hvi]; rfl
          · simp only [if_neg hk]
            by_cases h0 : k = i
            · simp only [if_pos h0]
              exact .inl (by rw [h0, getD_app_lt (by rw [List.length_set]; exact his), getD_set_self his])
            · simp only [if_neg h0]
              refine ⟨?_, trivial⟩
              rw [app_set (s.set i .no) ds .no (s.getD i .no) (rs.map svR), List.length_set, getD_set_ne (Ne.symm hk), ← List.set_append_left _ _ his, getD_set_ne (Ne.symm h0)]
              rfl
        · split at h <;> split at h' <;> (try split at h) <;> (try split at h') <;> (try cases h) <;> (try cases h') <;> (try injection h with h) <;> (try injection h' with h') <;> omega
theorem putB_len : ∀ {ms : List Bool} {rs : List R} {fin s : S}, (putB ms rs fin s).length = s.length
  | true :: ms, .top i :: rs, f :: fin, s => by unfold putB; rw [putB_len, List.length_set]
  | true :: ms, .d x :: rs, f :: fin, s => by unfold putB; exact putB_len
  | true :: ms, .own x :: rs, f :: fin, s => by unfold putB; exact putB_len
  | false :: ms, r :: rs, f :: fin, s => by unfold putB; exact putB_len
  | [], _, _, _ => rfl
  | true :: _, [], _, _ => rfl
  | false :: _, [], _, _ => rfl
  | true :: _, .top _ :: _, [], _ => rfl
  | true :: _, .d _ :: _, [], _ => rfl
  | true :: _, .own _ :: _, [], _ => rfl
  | false :: _, _ :: _, [], _ => rfl
/-- a slot behind the call: as it was, or what the argument that lent it holds -/
theorem putB_at : ∀ {ms : List Bool} {rs : List R} {fin s : S} (i : Nat), (putB ms rs fin s).getD i .no = s.getD i .no ∨ ∃ k : Nat, ms[k]? = some true ∧ rs[k]? = some (.top i) ∧ (putB ms rs fin s).getD i .no = fin.getD k .no
  | true :: ms, .top j :: rs, f :: fin, s, i => by
    unfold putB
    rcases putB_at (ms := ms) (rs := rs) (fin := fin) (s := s.set j f) i with h | ⟨k, h1, h2, h3⟩
    · by_cases hj : j = i
      · subst hj
        by_cases hlt : j < s.length
        · refine .inr ⟨0, rfl, rfl, ?_⟩
          rw [h, getD_set_self hlt]; rfl
        · refine .inl ?_
          rw [h, List.set_eq_of_length_le (by omega)]
      · exact .inl (by rw [h, getD_set_ne hj])
    · exact .inr ⟨k + 1, h1, h2, h3⟩
  | true :: ms, .d x :: rs, f :: fin, s, i => by
    unfold putB
    rcases putB_at (ms := ms) (rs := rs) (fin := fin) (s := s) i with h | ⟨k, h1, h2, h3⟩
    · exact .inl h
    · exact .inr ⟨k + 1, h1, h2, h3⟩
  | true :: ms, .own x :: rs, f :: fin, s, i => by
    unfold putB
    rcases putB_at (ms := ms) (rs := rs) (fin := fin) (s := s) i with h | ⟨k, h1, h2, h3⟩
    · exact .inl h
    · exact .inr ⟨k + 1, h1, h2, h3⟩
  | false :: ms, r :: rs, f :: fin, s, i => by
    unfold putB
    rcases putB_at (ms := ms) (rs := rs) (fin := fin) (s := s) i with h | ⟨k, h1, h2, h3⟩
    · exact .inl h
    · exact .inr ⟨k + 1, h1, h2, h3⟩
  | [], _, _, _, _ => .inl rfl
  | true :: _, [], _, _, _ => .inl rfl
  | false :: _, [], _, _, _ => .inl rfl
  | true :: _, .top _ :: _, [], _, _ => .inl rfl
  | true :: _, .d _ :: _, [], _, _ => .inl rfl
  | true :: _, .own _ :: _, [], _, _ => .inl rfl
  | false :: _, _ :: _, [], _, _ => .inl rfl
/-- the parameters that are lent -/
def ioOf (ms : List Bool) : List Nat := (List.range ms.length).filter fun k => ms.getD k false
theorem mem_ioOf {ms : List Bool} {k : Nat} (h : ms[k]? = some true) : k ∈ ioOf ms := by
  obtain ⟨h1, h2⟩ := List.getElem?_eq_some_iff.mp h
  exact List.mem_filter.mpr ⟨List.mem_range.mpr h1, by rw [List.getD_eq_getElem?_getD, h]; rfl⟩
/-- behind the call: the lent slots hold what the arguments hold -/
theorem back_ok {K : PySem.W.Frag} {Z Y H : Hp} {σ σ' ts : St} {s fin us : S} {ms : List Bool} {rs : List R} {vs : List V} (r : Rel K Z Y H (σ' ++ ts ++ σ) (fin ++ us ++ s)) (hl : σ.length = s.length) (hf : σ'.length = fin.length) (hu : ts.length = us.length)
    (keep : ∀ k ∈ ioOf ms, σ'.getD k none = (vs.map some).getD k none) (hv : vs.length = rs.length) (tp : ∀ (j i : Nat), rs[j]? = some (R.top i) → i < σ.length ∧ σ.getD i none = vs[j]?) (hfl : fin.length = vs.length) : Rel K Z Y H (σ ++ ts) (putB ms rs fin s ++ us) := by
  classical
  have at_ := fun i => putB_at (ms := ms) (rs := rs) (fin := fin) (s := s) i
  refine r.re (fun k => if k < σ.length then (if h : ∃ j : Nat, ms[j]? = some true ∧ rs[j]? = some (.top k) ∧ (putB ms rs fin s).getD k .no = fin.getD j .no then some h.choose else some (σ'.length + ts.length + k)) else if k < σ.length + ts.length then some (k - σ.length + σ'.length) else none)
    (by simp [putB_len, hl, hu]) (fun k => ?_) (fun k k' j h h' => ?_)
  · by_cases hk : k < σ.length
    · simp only [if_pos hk]
      by_cases h : ∃ j : Nat, ms[j]? = some true ∧ rs[j]? = some (.top k) ∧ (putB ms rs fin s).getD k .no = fin.getD j .no
      · simp only [dif_pos h]
        obtain ⟨h1, h2, h3⟩ := h.choose_spec
        generalize h.choose = j at h1 h2 h3
        have hlt : j < vs.length := by rw [hv]; exact (List.getElem?_eq_some_iff.mp h2).1
        refine ⟨?_, ?_⟩
        · rw [getD_app_lt (by rw [putB_len]; omega), h3, List.append_assoc, getD_app_lt (by omega)]
        · rw [getD_app_lt hk, (tp _ _ h2).2, List.append_assoc, getD_app_lt (by omega), keep _ (mem_ioOf h1), List.getD_eq_getElem?_getD, List.getElem?_map]
          rw [List.getElem?_eq_getElem hlt]; rfl
      · simp only [dif_neg h]
        refine ⟨?_, ?_⟩
        · rcases at_ k with q | q
          · rw [getD_app_lt (by rw [putB_len]; omega), q, getD_app_ge (by simp; omega)]
            have e : σ'.length + ts.length + k - (fin ++ us).length = k := by simp; omega
            rw [e]
          · exact absurd q h
        · rw [getD_app_lt hk, getD_app_ge (by simp)]
          have e : σ'.length + ts.length + k - (σ' ++ ts).length = k := by simp
          rw [e]
    · simp only [if_neg hk]
      by_cases hk2 : k < σ.length + ts.length
      · simp only [if_pos hk2]
        refine ⟨?_, ?_⟩
        · rw [getD_app_ge (by rw [putB_len]; omega), List.append_assoc, getD_app_ge (by omega), getD_app_lt (by omega), putB_len]
          congr 1; omega
        · rw [getD_app_ge (by omega), List.append_assoc, getD_app_ge (by omega), getD_app_lt (by omega)]
          congr 1; omega
      · simp only [if_neg hk2]
        exact .inl (getD_out (by simp [putB_len]; omega))
  · by_cases hk : k < σ.length
    · simp only [if_pos hk] at h
      by_cases hk' : k' < σ.length
      · simp only [if_pos hk'] at h'
        by_cases q : ∃ j : Nat, ms[j]? = some true ∧ rs[j]? = some (.top k) ∧ (putB ms rs fin s).getD k .no = fin.getD j .no
        · rw [dif_pos q] at h
          have qlt : q.choose < vs.length := by rw [hv]; exact (List.getElem?_eq_some_iff.mp q.choose_spec.2.1).1
          by_cases q' : ∃ j : Nat, ms[j]? = some true ∧ rs[j]? = some (.top k') ∧ (putB ms rs fin s).getD k' .no = fin.getD j .no
          · rw [dif_pos q'] at h'
            have e : q.choose = q'.choose := Option.some.inj (h.trans h'.symm)
            have e1 := q.choose_spec.2.1
            have e2 := q'.choose_spec.2.1
            rw [e, e2] at e1
            cases e1; rfl
          · rw [dif_neg q'] at h'
            have e := Option.some.inj (h.trans h'.symm)
            omega
        · rw [dif_neg q] at h
          by_cases q' : ∃ j : Nat, ms[j]? = some true ∧ rs[j]? = some (.top k') ∧ (putB ms rs fin s).getD k' .no = fin.getD j .no
          · rw [dif_pos q'] at h'
            have qlt : q'.choose < vs.length := by rw [hv]; exact (List.getElem?_eq_some_iff.mp q'.choose_spec.2.1).1
            have e := Option.some.inj (h.trans h'.symm)
            omega
          · rw [dif_neg q'] at h'
            have e := Option.some.inj (h.trans h'.symm)
            omega
      · simp only [if_neg hk'] at h'
        by_cases hk2 : k' < σ.length + ts.length
        · rw [if_pos hk2] at h'
          by_cases q : ∃ j : Nat, ms[j]? = some true ∧ rs[j]? = some (.top k) ∧ (putB ms rs fin s).getD k .no = fin.getD j .no
          · rw [dif_pos q] at h
            have qlt : q.choose < vs.length := by rw [hv]; exact (List.getElem?_eq_some_iff.mp q.choose_spec.2.1).1
            have e := Option.some.inj (h.trans h'.symm)
            omega
          · rw [dif_neg q] at h
            have e := Option.some.inj (h.trans h'.symm)
            omega
        · rw [if_neg hk2] at h'; cases h'
    · simp only [if_neg hk] at h
      by_cases hk2 : k < σ.length + ts.length
      · rw [if_pos hk2] at h
        by_cases hk' : k' < σ.length
        · simp only [if_pos hk'] at h'
          by_cases q : ∃ j : Nat, ms[j]? = some true ∧ rs[j]? = some (.top k') ∧ (putB ms rs fin s).getD k' .no = fin.getD j .no
          · rw [dif_pos q] at h'
            have qlt : q.choose < vs.length := by rw [hv]; exact (List.getElem?_eq_some_iff.mp q.choose_spec.2.1).1
            have e := Option.some.inj (h.trans h'.symm)
            omega
          · rw [dif_neg q] at h'
            have e := Option.some.inj (h.trans h'.symm)
            omega
        · simp only [if_neg hk'] at h'
          by_cases hk2' : k' < σ.length + ts.length
          · rw [if_pos hk2'] at h'
            have e := Option.some.inj (h.trans h'.symm)
            omega
          · rw [if_neg hk2'] at h'; cases h'
      · rw [if_neg hk2] at h; cases h
/-- the call, by the callee's text -/
theorem fCall_ok {sem : FSem} {ms : List Bool} {n : Nat} {σ : St} {H : Hp} {Q : VK} (hn : ms.length = n) (h : liftE X L (fCall sem ms fr) σ H Q) :
    tCallSD (liftSp X.K X.mg (ioOf ms) n sem) [] (fun σ cls d H => L.E cls d σ H) (liftA X L n fr) σ H Q := by
  obtain ⟨Z, Y, s, Xf, Qf, r, k, xo, h, q⟩ := h
  refine ⟨Z, Y, s, Xf, _, r, k, xo, h, fun vs H1 Z1 rs s1 hz rx hrn h1 => ?_⟩
  obtain ⟨Z2, svs, s2, hz2, r2, hls, hlv, hlm, h2⟩ := bindA_ok (us := []) (ds := []) (vs := vs) (by simpa using rx.rel) rx.l1 rfl rx.l2 rx.top h1
  simp only [List.nil_append] at r2
  have hσ : σ.length = s2.length := by rw [hls]; exact rx.l1
  have hts : (vs.map some).length = svs.length := by rw [List.length_map, hlv]
  -- the arguments alone
  have r3 : Rel X.K Z2 Y H1 ([] ++ vs.map some ++ σ) ([] ++ svs ++ s2) := Rel.swap (σa := []) (sa := []) (by simpa using r2) rfl hσ
  simp only [List.nil_append] at r3
  obtain ⟨Y', hy', r4, back, _⟩ := r3.frame hts
  have hvn : vs.length = n := by rw [rx.l2, hrn]
  rw [List.append_nil]
  refine ⟨Z2, Y', svs, _, _, hvn, r4, h2, fun u H' Z' σ' fin r' hz' keep hl' rx' nt hq => ?_, fun n' C H' Z' σ' fin hz' keep hl' r' hx m => ?_⟩
  · have b := back Z' H' _ _ hz' rx'.rel
    have lf : σ'.length = fin.length := rx'.l1
    have b2 := back_ok (ms := ms) (rs := rs) (vs := vs) b hσ lf (by simp) keep rx.l2 rx.top (by rw [← lf, hl', hvn])
    refine q u H' Z' r' _ ((hz.trans hz2).trans hz') ⟨b2, by rw [putB_len]; exact hσ, rfl, fun k i e => ?_⟩ hq
    cases k with
    | zero => exact absurd (by simpa using e) (nt i)
    | succ k => simp at e
  · have b := back Z' H' _ _ hz' r'
    have lf : σ'.length = fin.length := r'.len
    have b2 := back_ok (ts := []) (us := []) (ms := ms) (rs := rs) (vs := vs) (by simpa using b) hσ lf rfl keep rx.l2 rx.top (by rw [← lf, hl', hvn])
    simp only [List.append_nil] at b2
    exact xo n' C Z' H' σ _ ((hz.trans hz2).trans hz') k b2 hx m
variable {CX : CXT} {k : Nat} {f : Addr} {fd : FuncData} {ps : List Str} {x : Str}
theorem pf_call {sem : FSem} {ms : List Bool} (F : FnOk X.prog X.w X.K X.mg X.base CX k f fd ps (liftSp X.K X.mg (ioOf ms) (es.length + 1) sem)) (hr : Room k X.A) (hm : X.mg x = some (.ref f)) (hk : PySem.W.keepIn X.K (.ref f) = true) (hb : Binds X.K fd ps [])
    (hx : ∀ σ, PassesAt CX X σ (fun cls d H => L.E cls d σ H)) (ha : PFA X L (e :: es) fr) (hg : Gl X x := by rfl) (hn : ms.length = es.length + 1 := by rfl) (hdb : (x == ("__debug__" : Str)) = false := by decide) (he : starEach (e :: es) X.env = (false, eval e X.env) :: starEach es X.env := by rfl) (hpl : (backTo pos (starEach es X.env)).any (·.1) = false := by rfl) :
    PF X L (.Call (.Name x p) (e :: es) [] pos) (fCall sem ms fr) := PE_imp (pe_callSD F hr hg hm hk hb .nil hx ha hdb he hpl) fun σ H Q h => fCall_ok hn h
theorem pass0At : ∀ σ, PassesAt (L2.CX X.prog X.w) X σ (fun cls d H => L.in0.E cls d σ H) := fun σ pins H s e s' I c => passL pins σ H s e s' I c
variable {P : Program} {w : World} {K : PySem.W.Frag} {mg : Str → Option Value} {base : Heap}
theorem okStart {X : Cx} {N ps : List Str} {io : List Nat} {bd : FS} {vs : List V} {H : Hp} {Q : VK} {E : XK} (hnp : ps.length ≤ N.length) (h : liftSp X.K X.mg io ps.length (semOf ps.length N.length bd) vs H Q E) :
    liftS X ⟨fun cls d _ H => E cls d H, io, L2.start N vs⟩ bd { nx := fun _ H' => Q .non H', rt := Q } (L2.start N vs) H := by
  obtain ⟨Z, Y, svs, Xf, Qf, hl, r, hsem, hq, hx⟩ := h
  have hs : svs.length = ps.length := by have := r.len; rw [List.length_map] at this; omega
  have r0 : Rel X.K Z Y H (L2.start N vs) (svs ++ List.replicate (N.length - ps.length) .no) := by
    unfold L2.start
    rw [hl]
    generalize N.length - ps.length = n
    refine r.re (fun k => if k < svs.length then some k else none) (by simp [hs, hl]) (fun k => ?_) (fun k k' j h h' => ?_)
    · by_cases h : k < svs.length
      · simp only [if_pos h]
        exact ⟨by rw [getD_app_lt h], by rw [getD_app_lt (by simp; omega)]⟩
      · simp only [if_neg h]
        refine .inl ?_
        rw [getD_app_ge (by omega), List.getD_eq_getElem?_getD, List.getElem?_replicate]
        split <;> rfl
    · by_cases a : k < svs.length
      · by_cases b : k' < svs.length
        · rw [if_pos a] at h; rw [if_pos b] at h'; cases h; cases h'; rfl
        · rw [if_neg b] at h'; cases h'
      · rw [if_neg a] at h; cases h
  have tk : ∀ {Z' H' : Hp} {σ' ts : St} {s' us : S}, Rel X.K Z' Y H' (σ' ++ ts) (s' ++ us) → σ'.length = s'.length → Rel X.K Z' Y H' (σ'.take ps.length ++ ts) (s'.take ps.length ++ us) := by
    intro Z' H' σ' ts s' us r' hl'
    have hl2 := r'.len
    simp only [List.length_append] at hl2
    have g1 : ∀ j, j < (σ'.take ps.length).length → (σ'.take ps.length).getD j none = σ'.getD j none := fun j h => by
      rw [List.getD_eq_getElem?_getD, List.getD_eq_getElem?_getD, List.getElem?_take_of_lt (by rw [List.length_take] at h; omega)]
    have g2 : ∀ j, j < (s'.take ps.length).length → (s'.take ps.length).getD j .no = s'.getD j .no := fun j h => by
      rw [List.getD_eq_getElem?_getD, List.getD_eq_getElem?_getD, List.getElem?_take_of_lt (by rw [List.length_take] at h; omega)]
    have hm : (σ'.take ps.length).length = (s'.take ps.length).length := by rw [List.length_take, List.length_take, hl']
    generalize hA : σ'.take ps.length = σt at g1 hm
    generalize hB : s'.take ps.length = st' at g2 hm
    have hle : σt.length ≤ σ'.length := by rw [← hA, List.length_take]; omega
    refine r'.re (fun k => if k < σt.length then some k else if k < σt.length + ts.length then some (k - σt.length + σ'.length) else none) (by simp [hm]; omega) (fun k => ?_) (fun k k' j h h' => ?_)
    · by_cases h1 : k < σt.length
      · simp only [if_pos h1]
        exact ⟨by rw [getD_app_lt (by omega), getD_app_lt (by omega), g2 k (by omega)], by rw [getD_app_lt h1, getD_app_lt (by omega), g1 k h1]⟩
      · simp only [if_neg h1]
        by_cases h2 : k < σt.length + ts.length
        · simp only [if_pos h2]
          refine ⟨?_, ?_⟩
          · rw [getD_app_ge (by omega), getD_app_ge (by omega)]; congr 1; omega
          · rw [getD_app_ge (by omega), getD_app_ge (by omega)]; congr 1; omega
        · simp only [if_neg h2]
          exact .inl (getD_out (by simp; omega))
    · split at h <;> split at h' <;> (try split at h) <;> (try split at h') <;> (try cases h) <;> (try cases h') <;> (try injection h with h) <;> (try injection h' with h') <;> omega
  have tkl : ∀ {Z' H' : Hp} {σ' : St} {s' : S}, Rel X.K Z' Y H' σ' s' → Rel X.K Z' Y H' (σ'.take ps.length) (s'.take ps.length) := fun {Z' H' σ' s'} r' => by
    have := tk (ts := []) (us := []) (by simpa using r') r'.len
    simpa using this
  -- the lent parameters stay in their slots
  have kp : ∀ {σ' : St}, Lv.keeps ⟨fun cls d _ H => E cls d H, io, L2.start N vs⟩ σ' → ∀ k ∈ io, (σ'.take ps.length).getD k none = (vs.map some).getD k none := by
    intro σ' kk k hk
    by_cases hkp : k < ps.length
    · have q := kk.2 k hk
      have q : σ'.getD k none = (L2.start N vs).getD k none := q
      rw [List.getD_eq_getElem?_getD, List.getElem?_take_of_lt hkp, ← List.getD_eq_getElem?_getD, q]
      unfold L2.start
      rw [getD_app_lt (by simp; omega)]
    · rw [getD_out (by rw [List.length_take]; omega), getD_out (by rw [List.length_map]; omega)]
  have stl : (L2.start N vs).length = N.length := by unfold L2.start; simp; omega
  have tl : ∀ {σ' : St}, Lv.keeps ⟨fun cls d _ H => E cls d H, io, L2.start N vs⟩ σ' → (σ'.take ps.length).length = ps.length := fun {σ'} h => by
    have := h.1
    have : σ'.length = (L2.start N vs).length := this
    rw [List.length_take]; omega
  refine ⟨Z, Y, _, _, r0, ⟨rfl, fun _ _ => rfl⟩, hsem, fun σ' H' Z' s' hz kk r' h' => ?_, fun v σ' H' Z' r0' s' hz kk rx h' => ?_, fun _ _ _ _ _ _ _ h' => h'.elim, fun _ _ _ _ _ _ _ h' => h'.elim, fun n C Z' H' σ' s' hz kk r' h' m => ?_⟩
  · exact hq .non H' Z' (σ'.take ps.length) (s'.take ps.length) (.d .none) hz (kp kk) (tl kk) (.d (tkl r') .non) (fun i e => nomatch e) h'
  · have h' : outR r0' s' fun r' s'' => Qf r' (s''.take ps.length) := h'
    have fin : ∀ {s2 : S} {r2 : R}, (∀ i, r2 ≠ .top i) → Rel X.K Z' Y H' (σ' ++ [some v]) (s2 ++ [svR r2]) → σ'.length = s2.length → Qf r2 (s2.take ps.length) → Q v H' := fun {s2 r2} nt rl hl2 hq2 =>
      hq v H' Z' (σ'.take ps.length) (s2.take ps.length) r2 hz (kp kk) (tl kk) ⟨tk rl hl2, by rw [List.length_take, List.length_take, hl2], rfl, .one fun i e => absurd e (nt i)⟩ nt hq2
    cases r0' with
    | d x => exact fin (fun i e => by cases e) rx.rel rx.l1 h'
    | own w => exact fin (fun i e => by cases e) rx.rel rx.l1 h'
    | top i =>
      obtain ⟨hi, hv⟩ := rx.top 0 i rfl
      have his : i < s'.length := by rw [← rx.l1]; exact hi
      refine fin (s2 := s'.set i .no) (r2 := .own (s'.getD i .no)) (fun i e => by cases e) ?_ (by rw [List.length_set]; exact rx.l1) h'
      -- what the slot holds is handed out
      refine rx.rel.re (fun k => if k = σ'.length then some i else if k = i then none else some k) (by have := rx.l1; simp [this]) (fun k => ?_) (fun k k' j h h' => ?_)
      · by_cases hk : k = σ'.length
        · simp only [if_pos hk]
          refine ⟨?_, ?_⟩
          · rw [hk, getD_app_ge (by rw [List.length_set, rx.l1]; exact Nat.le_refl _), List.length_set, rx.l1, Nat.sub_self, getD_app_lt his]; rfl
          · rw [hk, getD_app_ge (Nat.le_refl _), Nat.sub_self, getD_app_lt hi, hv]; rfl
        · simp only [if_neg hk]
          by_cases h0 : k = i
          · simp only [if_pos h0]
            exact .inl (by rw [h0, getD_app_lt (by rw [List.length_set]; exact his), getD_set_self his])
          · simp only [if_neg h0]
            refine ⟨?_, rfl⟩
            have hl1 := rx.l1
            by_cases h1 : k < s'.length
            · rw [getD_app_lt (by rw [List.length_set]; exact h1), getD_app_lt h1, getD_set_ne (Ne.symm h0)]
            · rw [getD_out (by simp; omega), getD_out (by simp; omega)]
      · split at h <;> split at h' <;> (try split at h) <;> (try split at h') <;> (try cases h) <;> (try cases h') <;> (try injection h with h) <;> (try injection h' with h') <;> omega
  · exact hx n C H' Z' (σ'.take ps.length) (s'.take ps.length) hz (kp kk) (tl kk) (tkl r') h' m
theorem okF {q : Str} {st : Stmt} {N : List Str} {io : List Nat} {bd : FS} (F : Fun K x q st f fd) (sco : FnScope N ps (defScope st)) (hnp : ps.length ≤ N.length)
    (hb : ∀ (cdv : Value) (A : Around) (outer : List Env) (s : Shared) (H : Hp) (vs : List V) (E : XK), Room k (A.deeper (envOfC q (defScope st) s.heap.objs.size f cdv)) →
      PFSs (cxOf (L2.CX P w) P w K mg base N q (defScope st) f cdv A outer s H E) ⟨fun cls d _ H => E cls d H, io, L2.start N vs⟩ (defBody st) bd) :
    FnOk P w K mg base (L2.CX P w) (k + 1) f fd ps (liftSp K mg io ps.length (semOf ps.length N.length bd)) := by
  refine F.okX sco (fun vs H Q E ⟨_, _, _, _, _, hl, _⟩ => hl) fun cdv A outer s H vs Q E hr h => ⟨_, hb cdv A outer s H vs E hr, okStart hnp h⟩
end
end Hs
namespace Hs
open PySem
/-- factors whose product may be had; a divisor -/
def okM (i j : Int) : Prop := i.natAbs.log2 + j.natAbs.log2 < 1000000
def okD (j : Int) : Prop := 0 < j ∧ j.natAbs.log2 < 9000
def opAdd : V2 := fun d e Q => match d, e with
  | .int i, .int j => Q (.d (.int (i + j)))
  | .str x, .str y => x.length + y.length ≤ sizeLine ∧ Q (.d (.str (x ++ y)))
  | .list xs, .list ys => xs.length + ys.length ≤ sizeLine ∧ Q (.own (.l (xs ++ ys)))
  | .tuple xs, .tuple ys => xs.length + ys.length ≤ sizeLine ∧ Q (.d (.tuple (xs ++ ys)))
  | _, _ => False
def opSub : V2 := fun d e Q => match d, e with
  | .int i, .int j => Q (.d (.int (i - j)))
  | _, _ => False
def opMul : V2 := fun d e Q => match d, e with
  | .int i, .int j => okM i j ∧ Q (.d (.int (i * j)))
  | .list xs, .int k => -(2 ^ 63) ≤ k ∧ k < 2 ^ 63 ∧ xs.length * k.toNat ≤ sizeLine ∧ Q (.own (.l (List.replicate k.toNat xs).flatten))
  | .tuple xs, .int k => xs ≠ [] ∧ 0 ≤ k ∧ k ≤ 1000 ∧ xs.length ≤ 1000 ∧ Q (.d (.tuple (List.replicate k.toNat xs).flatten))
  | _, _ => False
def opFdiv : V2 := fun d e Q => match d, e with
  | .int i, .int j => okD j ∧ Q (.d (.int (i / j)))
  | _, _ => False
def opMod : V2 := fun d e Q => match d, e with
  | .int i, .int j => 0 < j ∧ Q (.d (.int (i % j)))
  | _, _ => False
def opPow : V2 := fun d e Q => match d, e with
  | .int i, .int j => 0 ≤ j ∧ j ≤ 1000000 ∧ i.natAbs < 2 ^ 64 ∧ Q (.d (.int (i ^ j.toNat)))
  | _, _ => False
def uNeg : V1 := fun d Q => match d with
  | .int i => Q (.d (.int (-i)))
  | _ => False
/-- what is compared: the text's own list as a list -/
def unlit : D → D
  | .dict [(.none, .list xs)] => .list xs
  | d => d
def cEq : V2 := fun d e Q => (∃ x y, d = .str x ∧ e = .str y ∧ Q (.d (.bool (decide (x = y))))) ∨ (SeqAt.shaped (unlit d) = true ∧ SeqAt.shaped (unlit e) = true ∧ Q (.d (.bool (PyData.eqv (unlit d) (unlit e)))))
def cNe : V2 := fun d e Q => (∃ x y, d = .str x ∧ e = .str y ∧ Q (.d (.bool (!decide (x = y))))) ∨ (SeqAt.shaped (unlit d) = true ∧ SeqAt.shaped (unlit e) = true ∧ Q (.d (.bool (!PyData.eqv (unlit d) (unlit e)))))
/-- xs[::-1] -/
def revD : V1 := fun d Q => match d with
  | .list xs => Q (.own (.l xs.reverse))
  | .tuple xs => Q (.d (.tuple xs.reverse))
  | _ => False
def intsOf : List D → Option (List Int)
  | [] => some []
  | .int i :: r => (intsOf r).map (i :: ·)
  | _ => none
def cLt : V2 := fun d e Q => match d, e with
  | .int i, .int j => Q (.d (.bool (decide (i < j))))
  | .tuple xs, .tuple ys => match intsOf xs, intsOf ys with
    | some ns, some ms => Q (.d (.bool (HT.lexLt ns ms)))
    | _, _ => False
  | _, _ => False
def cLe : V2 := fun d e Q => match d, e with
  | .int i, .int j => Q (.d (.bool (decide (i ≤ j))))
  | _, _ => False
def cGt : V2 := fun d e Q => match d, e with
  | .int i, .int j => Q (.d (.bool (decide (j < i))))
  | _, _ => False
def cGe : V2 := fun d e Q => match d, e with
  | .int i, .int j => Q (.d (.bool (decide (j ≤ i))))
  | _, _ => False
def cIn : V2 := fun d e Q => match e with
  | .list xs => SeqAt.shaped d = true ∧ SeqAt.shaped (.list xs) = true ∧ Q (.d (.bool (xs.any fun z => PyData.eqv z d)))
  | .tuple xs => SeqAt.shaped d = true ∧ SeqAt.shaped (.tuple xs) = true ∧ Q (.d (.bool (xs.any fun z => PyData.eqv z d)))
  | _ => False
def cNotIn : V2 := fun d e Q => match e with
  | .list xs => SeqAt.shaped d = true ∧ SeqAt.shaped (.list xs) = true ∧ Q (.d (.bool (!xs.any fun z => PyData.eqv z d)))
  | .tuple xs => SeqAt.shaped d = true ∧ SeqAt.shaped (.tuple xs) = true ∧ Q (.d (.bool (!xs.any fun z => PyData.eqv z d)))
  | _ => False
def isNone : D → Bool
  | .none => true
  | _ => false
abbrev pairD (p : Int × Int) : D := .tuple [.int p.1, .int p.2]
def ltPr (p q : Int × Int) : Bool := decide (p.1 < q.1) || (p.1 == q.1 && decide (p.2 < q.2))
def cIs : V2 := fun d e Q => match d, e with
  | d, .none => Q (.d (.bool (isNone d)))
  | .bool a, .bool b => Q (.d (.bool (decide (a = b))))
  | _, _ => False
def cIsNot : V2 := fun d e Q => match d, e with
  | d, .none => Q (.d (.bool (!isNone d)))
  | .bool a, .bool b => Q (.d (.bool (!decide (a = b))))
  | _, _ => False
def ixD : V2 := fun d e Q => match d, e with
  | .list xs, .int i => match L2.atI xs i with
    | some x => Q (.d x)
    | none => False
  | .tuple xs, .int i => match L2.atI xs i with
    | some x => Q (.d x)
    | none => False
  | .str z, .int i => z.length ≤ sizeLine ∧ match L2.atI z.cps.toList i with
    | some c => Q (.d (.str ⟨#[c]⟩))
    | none => False
  | .dict [(.none, .list xs)], .int i => match L2.atI xs i with
    | some x => Q (.d x)
    | none => False
  | _, _ => False
def slD (d : D) (lo hi : Option Int) (Q : R → Prop) : Prop := match d with
  | .list xs => Q (.own (.l (cutL xs lo hi)))
  | .tuple xs => Q (.d (.tuple (cutL xs lo hi)))
  | _ => False
where cutL (xs : List D) (lo hi : Option Int) : List D := (xs.drop (HT.sIx xs.length 0 lo)).take (HT.sIx xs.length xs.length hi - HT.sIx xs.length 0 lo)
def bLen : VN := fun ds Q => match ds with
  | [.list xs] => Q (.d (.int (xs.length : Nat)))
  | [.tuple xs] => Q (.d (.int (xs.length : Nat)))
  | [.str x] => x.length ≤ sizeLine ∧ Q (.d (.int (x.length : Nat)))
  | [.dict [(.none, .list xs)]] => Q (.d (.int (xs.length : Nat)))
  | _ => False
def bAbs : VN := fun ds Q => match ds with
  | [.int i] => Q (.d (.int (if i < 0 then -i else i)))
  | _ => False
def bMax2 : VN := fun ds Q => match ds with
  | [.int i, .int j] => Q (.d (.int (if j > i then j else i)))
  | _ => False
def bMin2 : VN := fun ds Q => match ds with
  | [.int i, .int j] => Q (.d (.int (if j < i then j else i)))
  | _ => False
def bInt : VN := fun ds Q => match ds with
  | [.int i] => Q (.d (.int i))
  | [.bool b] => Q (.d (.int (if b then 1 else 0)))
  | _ => False
def bTuple : VN := fun ds Q => match ds with
  | [.list xs] => Q (.d (.tuple xs))
  | [.tuple xs] => Q (.d (.tuple xs))
  | _ => False
def bList : VN := fun ds Q => match ds with
  | [.list xs] => Q (.own (.l xs))
  | [.tuple xs] => Q (.own (.l xs))
  | _ => False
def boolsOf : List D → Option (List Bool)
  | [] => some []
  | .bool i :: r => (boolsOf r).map (i :: ·)
  | _ => none
def bAll : VN := fun ds Q => match ds with
  | [.list xs] => match boolsOf xs with
    | some bs => Q (.d (.bool (bs.all id)))
    | none => False
  | _ => False
def bAny : VN := fun ds Q => match ds with
  | [.list xs] => match boolsOf xs with
    | some bs => Q (.d (.bool (bs.any id)))
    | none => False
  | _ => False
def bMinL : VN := fun ds Q => match ds with
  | [.list xs] => match intsOf xs with
    | some ns => 0 < ns.length ∧ ∀ m, m ∈ ns → (∀ y, y ∈ ns → m ≤ y) → Q (.d (.int m))
    | none => False
  | [.tuple xs] => match intsOf xs with
    | some ns => 0 < ns.length ∧ ∀ m, m ∈ ns → (∀ y, y ∈ ns → m ≤ y) → Q (.d (.int m))
    | none => False
  | _ => False
def isTy : String → D → Bool
  | "int", .int _ => true
  | "int", .bool _ => true
  | "bool", .bool _ => true
  | "tuple", .tuple _ => true
  | "list", .list _ => true
  | "str", .str _ => true
  | "dict", .dict _ => true
  | _, _ => false
def isLit : D → Bool
  | .dict ((.none, .none) :: _) => false
  | .dict ((.none, _) :: _) => true
  | _ => false
def bIs (T : String) : V1 := fun d Q => isLit d = false ∧ Q (.d (.bool (isTy T d)))
end Hs
namespace Hs
open PySem PySem.Spec PyProof.Rows L2
section
variable {X : Cx} {L : Lv} {e a b c : Expr} {es : List Expr} {fa fb fc : FE} {ft fu : FT} {fr : FA} {pos p : Pos}
variable {K : PySem.W.Frag} {Z H : Hp}
theorem add_lists {pins : List (Addr × Obj)} {s : Shared} {σ : St} {H : Hp} {l b : Addr} {xs zs : List V} {Q : VK} (I : Inv X pins σ H s) (hH : Rd H l (.lst xs)) (hB : Rd H b (.lst zs)) (hz : xs.length + zs.length ≤ sizeLine) (q : ∀ p, H p = none → Q (.ref p) (upd H p (.lst (xs ++ zs)))) :
    wpAny (model X.prog X.w) X.A (binaryOp .Add (.ref l) (.ref b)) (EP X pins σ Q) X.xe s := by
  obtain ⟨hl, its, n, r, e⟩ := hH.ok I.hok
  obtain ⟨hl2, its2, n2, r2, e2⟩ := hB.ok I.hok
  have h1 := r.length
  have h2 := r2.length
  refine PySem.P.add_list e e2 ?g ?z
  case z => simp only [List.size_toArray]; omega
  have ea : its.toArray ++ its2.toArray = (its ++ its2).toArray := by simp
  rw [ea]
  exact ⟨.ref _, _, I.lnew (t' := s.toks) (r.append r2) (by rw [List.length_append]; omega), rfl, q _ I.fresh⟩
theorem fop_add : OpR X (binaryOp .Add) (rF2 X.K opAdd) := by
  intro pins s σ H x y v u Q I rx ry ⟨Z, d, e, Qf, hz, hd, he, g, q⟩
  unfold opAdd at g
  split at g
  · cases hd.int; cases he.int
    exact op_add pins s σ H _ _ v u Q I rx ry ⟨_, _, rfl, rfl, q _ H Z _ (.d hz (.int _)) g⟩
  · cases hd.str; cases he.str
    exact op_add_str pins s σ H _ _ v u Q I rx ry ⟨_, _, rfl, rfl, g.1, q _ H Z _ (.d hz (.str _)) g.2⟩
  · obtain ⟨p, vs, rfl, h1, h2, h3⟩ := hd.list hz
    obtain ⟨p', vs', rfl, h1', h2', h3'⟩ := he.list hz
    cases rx; cases ry
    have l1 := h3.length
    have l2 := h3'.length
    exact add_lists I h1 h1' (by omega) fun n hn => q _ _ Z _ (.lst hz hn (by rw [List.length_append]; omega) (h3.append h3')) g.2
  · obtain ⟨p, vs, rfl, h1, h2, h3⟩ := hd.tuple hz
    obtain ⟨p', vs', rfl, h1', h2', h3'⟩ := he.tuple hz
    have l1 := h3.length
    have l2 := h3'.length
    refine op_catA pins s σ H _ _ v u Q I rx ry ⟨p, p', vs, vs', rfl, rfl, h1, h1', by omega, fun e => ?_, fun e1 e2 => ?_, fun e1 e2 n hn => ?_⟩
    · subst e
      cases h3
      have ez : Rp X.K Z (.ref p') (.tuple _) := RpV.tupZ he
      exact q _ H Z _ (.d hz ez) g.2
    · subst e2
      cases h3'
      have ez : Rp X.K Z (.ref p) (.tuple _) := RpV.tupZ hd
      rw [List.append_nil] at g
      exact q _ H Z _ (.d hz ez) g.2
    · exact q _ _ _ _ (.tup hz hn (by rw [List.length_append]; omega) (h3.append h3')) g.2
  · exact g.elim
where
  RpV.tupZ {K : PySem.W.Frag} {Z H : Hp} {v : V} {xs : List D} (r : RpV K Z H v (.tuple xs)) : Rp K Z v (.tuple xs) := by
    rcases r with r | ⟨p, vs, xs', rfl, e2, h, z, a⟩ | ⟨p, kvs, rfl, e2, h⟩
    · exact r
    · cases e2
    · cases e2
theorem fop_sub : OpR X (binaryOp .Sub) (rF2 X.K opSub) := by
  intro pins s σ H x y v u Q I rx ry ⟨Z, d, e, Qf, hz, hd, he, g, q⟩
  unfold opSub at g
  split at g
  · cases hd.int; cases he.int
    exact op_sub pins s σ H _ _ v u Q I rx ry ⟨_, _, rfl, rfl, q _ H Z _ (.d hz (.int _)) g⟩
  · exact g.elim
theorem rep_list {pins : List (Addr × Obj)} {s : Shared} {σ : St} {H : Hp} {l : Addr} {k : Int} {t : Tok} {xs : List V} {Q : VK} (I : Inv X pins σ H s) (hH : Rd H l (.lst xs)) (h1 : -(2 ^ 63) ≤ k) (h2 : k < 2 ^ 63) (hz : xs.length * k.toNat ≤ sizeLine) (q : ∀ p, H p = none → Q (.ref p) (upd H p (.lst (List.replicate k.toNat xs).flatten))) :
    wpAny (model X.prog X.w) X.A (binaryOp .Mult (.ref l) (.int k t)) (EP X pins σ Q) X.xe s := by
  obtain ⟨_, its, n, r, e⟩ := hH.ok I.hok
  have hl := r.length
  have hlen : its.toArray.size * k.toNat ≤ sizeLine := by rw [List.size_toArray, ← hl]; exact hz
  have hcap : ¬ its.toArray.size * k.toNat > (2 ^ 63 - 1) / 8 := by
    have : (sizeLine : Nat) ≤ (2 ^ 63 - 1) / 8 := by decide
    omega
  have hfit : ¬ (!Builtin.List.listFitsIndex k) = true := by
    rw [fitsIndex_both h1 h2]
    exact Bool.false_ne_true
  have hlong : ¬ Builtin.List.listTooLong (its.toArray.size * k.toNat) = true := by
    rw [notLongL hlen]
    exact Bool.false_ne_true
  have hnew : List.foldl (fun x1 x2 => x1 ++ x2) #[] (List.replicate (if its.toArray.isEmpty = true then 0 else k.toNat) its.toArray) = (List.replicate k.toNat its).flatten.toArray := by
    have f0 : ∀ m : Nat, List.foldl (fun x1 x2 => x1 ++ x2) #[] (List.replicate m its.toArray) = (List.replicate m its).flatten.toArray := fun m => by
      have := foldl_rep its m []
      rw [List.nil_append] at this
      exact this
    rw [f0]
    cases its with
    | nil => simp
    | cons a r' => rw [if_neg (by simp)]
  refine wpAny_binaryOp_repeat_ref (T := "list") (U := "int") (by decide) ⟨_, e, rfl⟩ (fun s' => typeIs_int s' k t) noFill_list_mul F.fills_int_mul F.slot_int_rmul repeat_list F.slot_int_index.lookup
    (call_meets F.slot_int_rmul (typeIs_int s k t) F.entry_int_rmul (F.args_int_rmul_2 _ _) (int___rmul___int_list k t l its.toArray n)
      ⟨e, rfl, ⟨_, e, rfl⟩, call_meets F.slot_list_mul ⟨_, e, rfl⟩ F.entry_list_mul (F.args_list_mul_2 _ _) (AutoListH.list___mul___list_int_3 l its.toArray n k t hfit hcap hlong) ⟨e, ?_⟩⟩)
  rw [hnew]
  exact ⟨.ref _, _, I.lnew (t' := s.toks) (r.rep k.toNat) (by rw [PyProof.Rows.lm_len_rep_flat, Nat.mul_comm]; exact hz), rfl, q _ I.fresh⟩
theorem tmul_one (l : Addr) (items : Array Value) (n : Nat) (dd : Option Addr) (sl : Array (Option Value)) (u : Tok) :
    Meets (Builtin.«tuple.__mul__» ⟨[.ref l, .int 1 u], []⟩) (fun _ R s => s.heap.get? l = some { cls := .type "tuple", dict := dd, data := .seq items n, slots := sl } ∧ R (.ok (.ret (Value.ref l))) s) :=
  .of_wp fun prog w A R s h => by
    obtain ⟨hp, g, d, tk, os⟩ := s
    obtain ⟨hl, h⟩ := h
    have f1 := AutoSeq1.idx_int
    wp_walk using wpAny_loadPart' hl
    repeat (first
      | (refine wpAny_ite_true (by simp) ?_; wp_walk using wpAny_loadPart' hl)
      | (refine wpAny_ite_false (by simp) ?_; wp_walk using wpAny_loadPart' hl))
    exact ⟨_, rfl, h⟩
theorem tmul_none (l : Addr) (items : Array Value) (n : Nat) (dd : Option Addr) (sl : Array (Option Value)) (u : Tok) (hne : items.isEmpty = false) :
    Meets (Builtin.«tuple.__mul__» ⟨[.ref l, .int 0 u], []⟩) (fun _ R s => s.heap.get? l = some { cls := .type "tuple", dict := dd, data := .seq items n, slots := sl } ∧
      R (.ok (.ret (Value.ref s.heap.objs.size))) { s with heap := s.heap.push { cls := Value.type "tuple", data := Data.seq #[] }, toks := s.toks }) :=
  .of_wp fun prog w A R s h => by
    obtain ⟨hp, g, d, tk, os⟩ := s
    obtain ⟨hl, h⟩ := h
    have f1 := AutoSeq1.idx_int
    have z0 : (#[] : Array Value).size ≤ sizeLine := Nat.zero_le _
    wp_walk using wpAny_loadPart' hl
    repeat (first
      | (refine wpAny_ite_true (by simp [hne]) ?_; wp_walk using wpAny_loadPart' hl)
      | (refine wpAny_ite_false (by simp [hne]) ?_; wp_walk using wpAny_loadPart' hl))
    exact ⟨_, rfl, h⟩
theorem rep_tuple {pins : List (Addr × Obj)} {s : Shared} {σ : St} {H : Hp} {l : Addr} {k : Int} {t : Tok} {xs : List V} {Q : VK} (I : Inv X pins σ H s) (hT : SqT X.K H l xs) (hne : xs ≠ []) (hk : k = 0 ∨ k = 1) (q1 : k = 1 → Q (.ref l) H) (q0 : k = 0 → ∀ p, H p = none → Q (.ref p) (upd H p (.tup []))) :
    wpAny (model X.prog X.w) X.A (binaryOp .Mult (.ref l) (.int k t)) (EP X pins σ Q) X.xe s := by
  obtain ⟨its, r, ⟨⟨cls, dd, data, sl⟩, ho, hc, n, hd⟩, hs⟩ := I.tuple hT
  simp only at hc hd
  subst hc hd
  have full : its.toArray.isEmpty = false := by
    cases r with
    | nil => exact absurd rfl hne
    | cons _ _ => rfl
  refine wpAny_binaryOp_repeat_ref (T := "tuple") (U := "int") (by decide) ⟨_, ho, rfl⟩ (fun s' => typeIs_int s' k t) noFill_tuple_mul F.fills_int_mul F.slot_int_rmul repeat_tuple F.slot_int_index.lookup ?_
  refine call_meets F.slot_int_rmul (typeIs_int s k t) F.entry_int_rmul (F.args_int_rmul_2 _ _) (int_rmul_tuple k t l its.toArray n dd sl) ⟨ho, rfl, ⟨_, ho, rfl⟩, ?_⟩
  rcases hk with rfl | rfl
  · refine call_meets F.slot_tuple_mul ⟨_, ho, rfl⟩ F.entry_tuple_mul (F.args_tuple_mul_2 _ _) (tmul_none l its.toArray n dd sl t full) ⟨ho, ?_⟩
    exact ⟨.ref s.heap.objs.size, _, I.laid (t' := s.toks) (o := .tup []) (fun b ob q => Heap.get?_push_of_some _ q) (Nat.le_refl _) ⟨Nat.zero_le _, [], .nil, IsTup.new _ _⟩, rfl, q0 rfl _ (I.hok.fresh (Nat.le_refl _))⟩
  · refine call_meets F.slot_tuple_mul ⟨_, ho, rfl⟩ F.entry_tuple_mul (F.args_tuple_mul_2 _ _) (tmul_one l its.toArray n dd sl t) ⟨ho, ?_⟩
    exact ⟨.ref l, H, I, rfl, q1 rfl⟩
theorem fop_mul : OpR X (binaryOp .Mult) (rF2 X.K opMul) := by
  intro pins s σ H x y v u Q I rx ry ⟨Z, d, e, Qf, hz, hd, he, g, q⟩
  unfold opMul at g
  split at g
  · cases hd.int; cases he.int
    exact op_mulW pins s σ H _ _ v u Q I rx ry ⟨_, _, rfl, rfl, g.1, q _ H Z _ (.d hz (.int _)) g.2⟩
  · obtain ⟨p, vs, rfl, h1, h2, h3⟩ := hd.list hz
    cases he.int
    cases rx
    obtain ⟨t, rfl⟩ := ry
    have l1 := h3.length
    have rr : ∀ n : Nat, RpAll X.K Z (List.replicate n vs).flatten (List.replicate n _).flatten := fun n => by
      induction n with
      | zero => exact .nil
      | succ n ih => rw [List.replicate_succ, List.flatten_cons, List.replicate_succ, List.flatten_cons]; exact h3.append ih
    refine rep_list I h1 g.1 g.2.1 (by rw [l1]; exact g.2.2.1) fun n hn => q _ _ Z _ (.lst hz hn ?_ (rr _)) g.2.2.2
    rw [(rr _).length, List.length_flatten, List.map_replicate, List.sum_replicate_nat, Nat.mul_comm]
    exact g.2.2.1
  · obtain ⟨g1, g2, g3, g4, g5⟩ := g
    obtain ⟨p, vs, rfl, h1, h2, h3⟩ := hd.tuple hz
    have ez : Rp X.K Z (.ref p) (.tuple _) := fop_add.RpV.tupZ hd
    cases he.int
    have l1 := h3.length
    have rr : ∀ n : Nat, RpAll X.K Z (List.replicate n vs).flatten (List.replicate n _).flatten := fun n => by
      induction n with
      | zero => exact .nil
      | succ n ih => rw [List.replicate_succ, List.flatten_cons, List.replicate_succ, List.flatten_cons]; exact h3.append ih
    have hne : vs ≠ [] := fun e => g1 (List.eq_nil_of_length_eq_zero (by rw [← l1, e]; rfl))
    rename_i k
    by_cases hk : k = 0 ∨ k = 1
    · obtain ⟨t, rfl⟩ := ry
      cases rx
      refine rep_tuple I h1 hne hk (fun e => ?_) fun e n hn => ?_
      · subst e
        rw [show (List.replicate (1 : Int).toNat _).flatten = _ from List.append_nil _] at g5
        exact q _ H Z _ (.d hz ez) g5
      · subst e
        exact q _ _ _ _ (.tup hz hn (Nat.zero_le _) .nil) g5
    · refine op_repT pins s σ H _ _ v u Q I rx ry ⟨p, k, vs, rfl, rfl, h1, hne, by omega, g3, by omega, fun n hn => ?_⟩
      refine q _ _ _ _ (.tup hz hn ?_ (rr _)) g5
      rw [(rr _).length, List.length_flatten, List.map_replicate, List.sum_replicate_nat]
      show _ ≤ 16777216
      have a1 : k.toNat * _ ≤ 1000 * 1000 := Nat.mul_le_mul (by omega) g4
      omega
  · exact g.elim
theorem fop_fdiv : OpR X (binaryOp .FloorDiv) (rF2 X.K opFdiv) := by
  intro pins s σ H x y v u Q I rx ry ⟨Z, d, e, Qf, hz, hd, he, g, q⟩
  unfold opFdiv at g
  split at g
  · cases hd.int; cases he.int
    exact op_fdivW pins s σ H _ _ v u Q I rx ry ⟨_, _, rfl, rfl, g.1, q _ H Z _ (.d hz (.int _)) g.2⟩
  · exact g.elim
theorem fop_mod : OpR X (binaryOp .Mod) (rF2 X.K opMod) := by
  intro pins s σ H x y v u Q I rx ry ⟨Z, d, e, Qf, hz, hd, he, g, q⟩
  unfold opMod at g
  split at g
  · cases hd.int; cases he.int
    refine op_modN pins s σ H _ _ v u Q I rx ry ⟨_, _, rfl, rfl, by have := g.1; omega, ?_⟩
    have g1 := g.1
    show Q (.int (Int.fmod _ _)) H
    rw [Int.fmod_eq_emod_of_nonneg _ (by omega)]
    exact q _ H Z _ (.d hz (.int _)) g.2
  · exact g.elim
theorem fop_pow : OpR X (binaryOp .Pow) (rF2 X.K opPow) := by
  intro pins s σ H x y v u Q I rx ry ⟨Z, d, e, Qf, hz, hd, he, g, q⟩
  unfold opPow at g
  split at g
  · cases hd.int; cases he.int
    exact op_pow pins s σ H _ _ v u Q I rx ry ⟨_, _, rfl, rfl, ⟨g.1, g.2.1, g.2.2.1⟩, q _ H Z _ (.d hz (.int _)) g.2.2.2⟩
  · exact g.elim
theorem fun_neg : UnR X (unaryOp .USub) (rF1 X.K uNeg) := by
  intro pins s σ H x v Q I rx ⟨Z, d, Qf, hz, hd, g, q⟩
  unfold uNeg at g
  split at g
  · cases hd.int
    exact un_neg pins s σ H _ v Q I rx ⟨_, rfl, q _ H Z _ (.d hz (.int _)) g⟩
  · exact g.elim
mutual
theorem Rp.dp : ∀ (d : PyData) (v : V), d.canLay0 = true → Rp K H v d → Dp K H v d
  | .none, _, _, .non => .non
  | .bool _, _, _, .bl b => .bl b
  | .int _, _, _, .int i => .int i
  | .str _, _, _, .str x => .str x
  | .list ds, _, h, .lst q z a => .lst (.inl q) (RpAll.dp ds _ (by simpa [PyData.canLay0] using h) a)
  | .tuple ds, _, h, .tup q z a => .tup (tupSq q) (RpAll.dp ds _ (by simpa [PyData.canLay0] using h) a)
  | .dict _, _, h, _ => by simp [PyData.canLay0] at h
theorem RpAll.dp : ∀ (ds : List PyData) (vs : List V), PyData.canLayAll0 ds = true → RpAll K H vs ds → DpAll K H vs ds
  | [], _, _, .nil => .nil
  | d :: ds, _, h, .cons r a => by
    have h' : d.canLay0 = true ∧ PyData.canLayAll0 ds = true := by simpa [PyData.canLayAll0] using h
    exact .cons (Rp.dp d _ h'.1 r) (RpAll.dp ds _ h'.2 a)
end
theorem RpV.dp {v : V} {d : D} (r : RpV K Z H v d) (e : Same Z H) (h : SeqAt.shaped d = true) : Dp K H v d := Rp.dp d v (SeqAt.canLay_of_shaped h) (r.rp e)
theorem RpV.dpU {v : V} {d : D} (r : RpV K Z H v d) (e : Same Z H) (h : SeqAt.shaped (unlit d) = true) : Dp K H v (unlit d) := by
  revert h
  unfold unlit
  split
  · rename_i xs
    intro h
    obtain ⟨p, ns, rfl, rfl, h1, h2⟩ := r.lit e
    exact .lst h1 (dpInts ns)
  · intro h
    exact r.dp e h
where dpInts : ∀ ns : List Int, DpAll K H (ns.map V.int) (ns.map PyData.int)
  | [] => .nil
  | n :: ns => .cons (.int n) (dpInts ns)
theorem fop_eq (hu : X.A.units + 64 < cLine) : OpR X (compareOp .Eq) (rF2 X.K cEq) := by
  intro pins s σ H x y v u Q I rx ry ⟨Z, d, e, Qf, hz, hd, he, g, q⟩
  rcases g with ⟨z, z', rfl, rfl, g⟩ | ⟨g1, g2, g⟩
  · cases hd.str; cases he.str
    refine op_eq pins s σ H _ _ v u Q I rx ry ⟨rfl, ?_⟩
    rw [show decide (V.str z = V.str z') = decide (z = z') by simp]
    exact q _ H Z _ (.d hz (.bl _)) g
  exact op_eqD hu pins s σ H x y v u Q I rx ry ⟨_, _, hd.dpU hz g1, he.dpU hz g2, g1, g2, q _ H Z _ (.d hz (.bl _)) g⟩
theorem fop_ne (hu : X.A.units + 64 < cLine) : OpR X (compareOp .NotEq) (rF2 X.K cNe) := by
  intro pins s σ H x y v u Q I rx ry ⟨Z, d, e, Qf, hz, hd, he, g, q⟩
  rcases g with ⟨z, z', rfl, rfl, g⟩ | ⟨g1, g2, g⟩
  · cases hd.str; cases he.str
    refine op_ne pins s σ H _ _ v u Q I rx ry ⟨rfl, ?_⟩
    rw [show decide (V.str z = V.str z') = decide (z = z') by simp]
    exact q _ H Z _ (.d hz (.bl _)) g
  exact op_neD hu pins s σ H x y v u Q I rx ry ⟨_, _, hd.dpU hz g1, he.dpU hz g2, g1, g2, q _ H Z _ (.d hz (.bl _)) g⟩
theorem intsOf_eq : ∀ {xs : List D} {ns : List Int}, intsOf xs = some ns → xs = ns.map PyData.int
  | [], ns, h => by cases h; rfl
  | x :: xs, ns, h => by
    cases x with
    | int i =>
      unfold intsOf at h
      cases e : intsOf xs with
      | none => rw [e] at h; cases h
      | some ms =>
        rw [e] at h
        cases h
        rw [intsOf_eq e]; rfl
    | _ => unfold intsOf at h; cases h
theorem boolsOf_eq : ∀ {xs : List D} {ns : List Bool}, boolsOf xs = some ns → xs = ns.map PyData.bool
  | [], ns, h => by cases h; rfl
  | x :: xs, ns, h => by
    cases x with
    | bool i =>
      unfold boolsOf at h
      cases e : boolsOf xs with
      | none => rw [e] at h; cases h
      | some ms =>
        rw [e] at h
        cases h
        rw [boolsOf_eq e]; rfl
    | _ => unfold boolsOf at h; cases h
theorem fop_lt (hu : X.A.units < cLine) : OpR X (compareOp .Lt) (rF2 X.K cLt) := by
  intro pins s σ H x y v u Q I rx ry ⟨Z, d, e, Qf, hz, hd, he, g, q⟩
  unfold cLt at g
  split at g
  · cases hd.int; cases he.int
    exact op_lt pins s σ H _ _ v u Q I rx ry ⟨_, _, rfl, rfl, q _ H Z _ (.d hz (.bl _)) g⟩
  · split at g
    · rename_i ns ms e1 e2
      obtain ⟨p, vs, rfl, h1, h2, h3⟩ := hd.tuple hz
      obtain ⟨p', vs', rfl, h1', h2', h3'⟩ := he.tuple hz
      rw [intsOf_eq e1] at h3
      rw [intsOf_eq e2] at h3'
      rw [h3.ints] at h1
      rw [h3'.ints] at h1'
      exact op_ltT hu pins s σ H _ _ v u Q I rx ry ⟨p, p', ns, ms, rfl, rfl, h1, h1', q _ H Z _ (.d hz (.bl _)) g⟩
    · exact g.elim
  · exact g.elim
theorem fop_le : OpR X (compareOp .LtE) (rF2 X.K cLe) := by
  intro pins s σ H x y v u Q I rx ry ⟨Z, d, e, Qf, hz, hd, he, g, q⟩
  unfold cLe at g
  split at g
  · cases hd.int; cases he.int
    exact op_le pins s σ H _ _ v u Q I rx ry ⟨_, _, rfl, rfl, q _ H Z _ (.d hz (.bl _)) g⟩
  · exact g.elim
theorem fop_gt : OpR X (compareOp .Gt) (rF2 X.K cGt) := by
  intro pins s σ H x y v u Q I rx ry ⟨Z, d, e, Qf, hz, hd, he, g, q⟩
  unfold cGt at g
  split at g
  · cases hd.int; cases he.int
    exact op_gt pins s σ H _ _ v u Q I rx ry ⟨_, _, rfl, rfl, q _ H Z _ (.d hz (.bl _)) g⟩
  · exact g.elim
theorem fop_ge : OpR X (compareOp .GtE) (rF2 X.K cGe) := by
  intro pins s σ H x y v u Q I rx ry ⟨Z, d, e, Qf, hz, hd, he, g, q⟩
  unfold cGe at g
  split at g
  · cases hd.int; cases he.int
    exact op_ge pins s σ H _ _ v u Q I rx ry ⟨_, _, rfl, rfl, q _ H Z _ (.d hz (.bl _)) g⟩
  · exact g.elim
theorem fop_in (hu : X.A.units + 65 < cLine) : OpR X (compareOp .In) (rF2 X.K cIn) := by
  intro pins s σ H x y v u Q I rx ry ⟨Z, d, e, Qf, hz, hd, he, g, q⟩
  unfold cIn at g
  split at g
  · exact op_inD hu pins s σ H _ _ v u Q I rx ry ⟨d, _, hd.dp hz g.1, he.dp hz g.2.1, g.1, g.2.1, q _ H Z _ (.d hz (.bl _)) g.2.2⟩
  · obtain ⟨as, r1⟩ := Dp.reads I d x v (hd.dp hz g.1) rx
    obtain ⟨bs, r2⟩ := Dp.reads I _ y u (he.dp hz g.2.1) ry
    exact SeqAt.in_tuple_reads r2 r1 (by have := SeqAt.canLay_of_shaped g.2.1; simpa [PyData.canLay0] using this) (SeqAt.canLay_of_shaped g.1) (room_in_shaped g.1 hu) ⟨.bl _, H, I, rfl, q _ H Z _ (.d hz (.bl _)) g.2.2⟩
  · exact g.elim
theorem fop_notIn (hu : X.A.units + 65 < cLine) : OpR X (compareOp .NotIn) (rF2 X.K cNotIn) := by
  intro pins s σ H x y v u Q I rx ry ⟨Z, d, e, Qf, hz, hd, he, g, q⟩
  unfold cNotIn at g
  split at g
  · exact op_notInD hu pins s σ H _ _ v u Q I rx ry ⟨d, _, hd.dp hz g.1, he.dp hz g.2.1, g.1, g.2.1, q _ H Z _ (.d hz (.bl _)) g.2.2⟩
  · obtain ⟨as, r1⟩ := Dp.reads I d x v (hd.dp hz g.1) rx
    obtain ⟨bs, r2⟩ := Dp.reads I _ y u (he.dp hz g.2.1) ry
    exact SeqAt.notIn_tuple_reads r2 r1 (by have := SeqAt.canLay_of_shaped g.2.1; simpa [PyData.canLay0] using this) (SeqAt.canLay_of_shaped g.1) (room_in_shaped g.1 hu) ⟨.bl _, H, I, rfl, q _ H Z _ (.d hz (.bl _)) g.2.2⟩
  · exact g.elim
theorem RpAll.atI {vs : List V} {ds : List D} {i : Int} {d : D} (r : RpAll K Z vs ds) (e : L2.atI ds i = some d) : ∃ v, L2.atI vs i = some v ∧ Rp K Z v d := by
  unfold L2.atI at e ⊢
  rw [r.length]
  cases h : ixN ds.length i with
  | none => rw [h] at e; cases e
  | some j => rw [h] at e; exact r.get e
theorem fix_d : IxR X (rF2 X.K ixD) := by
  intro value slice pins s σ H x y v u Q I rx ry ⟨Z, d, e, Qf, hz, hd, he, g, q⟩ hpl
  unfold ixD at g
  split at g
  · split at g
    · obtain ⟨p, vs, rfl, h1, h2, h3⟩ := hd.list hz
      cases he.int
      obtain ⟨w, hw, rw'⟩ := h3.atI (by assumption)
      exact ix_list value slice pins s σ H _ _ v u Q I rx ry ⟨p, vs, _, w, rfl, rfl, .inl h1, hw, q _ H Z _ (.d hz rw') g⟩ hpl
    · exact g.elim
  · split at g
    · obtain ⟨p, vs, rfl, h1, h2, h3⟩ := hd.tuple hz
      cases he.int
      obtain ⟨w, hw, rw'⟩ := h3.atI (by assumption)
      exact ix_tup value slice pins s σ H _ _ v u Q I rx ry ⟨p, vs, _, w, rfl, rfl, h1, hw, q _ H Z _ (.d hz rw') g⟩ hpl
    · exact g.elim
  · obtain ⟨g1, g2⟩ := g
    split at g2
    · cases hd.str
      cases he.int
      exact ix_str value slice pins s σ H _ _ v u Q I rx ry ⟨_, _, _, rfl, rfl, g1, by assumption, q _ H Z _ (.d hz (.str _)) g2⟩ hpl
    · exact g2.elim
  · split at g
    · obtain ⟨p, ns, rfl, rfl, h1, h2⟩ := hd.lit hz
      cases he.int
      rename_i x heq
      obtain ⟨w, hw, rz⟩ := RpAll.atI (RpAll.of_ints (K := X.K) (H := Z) ns) heq
      exact ix_list value slice pins s σ H _ _ v u Q I rx ry ⟨p, _, _, w, rfl, rfl, h1, hw, q _ H Z _ (.d hz rz) g⟩ hpl
    · exact g.elim
  · exact g.elim
end
end Hs
namespace Hs
open PySem PySem.Spec PyProof.Rows L2
section
variable {prog : Program} {w : World} {A : Around} {E : Value → Shared → Prop} {s : Shared} {l : Addr}
theorem iter_intTuple {xs : Array (Int × Tok)} {Q : Value → Shared → Prop} (hl : s.heap.IsTuple l (intItems xs))
    (h : ∀ s₂ : Shared, s₂ = { s with heap := s.heap.push { cls := .type "tuple_iterator", data := .fields #[.ref l, .int 0 0] } } →
      (s₂.heap.IsTupleIter s.heap.objs.size l 0 ∧ s₂.heap.IsTuple l (intItems xs)) → (∀ b ∈ [s.heap.objs.size, l], b < s₂.heap.objs.size) → l ≠ s.heap.objs.size → Q (.ref s.heap.objs.size) s₂) :
    wpAny (model prog w) A (pyIter (.ref l)) Q E s := by
  have hlt : l < s.heap.objs.size := by obtain ⟨_, e, _⟩ := hl; exact Heap.lt_size e
  refine wpAny_pyIter_tuple hl (h _ rfl ⟨⟨_, Heap.get?_push_size _ rfl, rfl, rfl⟩, hl.push _⟩ (fun b hb => ?_) (Nat.ne_of_lt hlt))
  show b < (s.heap.push _).objs.size
  rw [Heap.size_push]
  rcases List.mem_cons.mp hb with rfl | hb
  · exact Nat.lt_succ_self _
  · rcases List.mem_cons.mp hb with rfl | hb
    · exact Nat.lt_succ_of_lt hlt
    · cases hb
theorem old_keptT {h' : Heap} (hk : ∀ b o, b ∉ [s.heap.objs.size] → (s.heap.push { cls := .type "tuple_iterator", data := .fields #[.ref l, .int 0 0] }).get? b = some o → h'.get? b = some o) :
    ∀ b o, s.heap.get? b = some o → h'.get? b = some o := fun b o e => by
  refine hk b o (fun hm => ?_) (Heap.get?_push_of_some _ e)
  rcases List.mem_cons.mp hm with e1 | hm
  · exact absurd (e1 ▸ Heap.lt_size e) (Nat.lt_irrefl _)
  · cases hm
theorem min_intTuple {xs : Array (Int × Tok)} {Q : Value → Shared → Prop} (hh : A.handled = none) (hl : s.heap.IsTuple l (intItems xs)) (hne : 0 < xs.size)
    (h : ∀ v h' tk, (intItems xs)[argBest (fun i j => decide (numAt xs i < numAt xs j)) (xs.size - 1)]? = some v → (∀ b o, s.heap.get? b = some o → h'.get? b = some o) → Q v { s with heap := h', toks := tk }) :
    wpAny (model prog w) A (call (.builtin "min") [.ref l]) Q E s := by
  refine call_min_walk (iter_intTuple hl fun s₂ e st hfp hlI => ?_)
  subst e
  refine ⟨_, _, _, _, _, _, _, rfl, PySem.Walks.tuple (A := A.in1) hh _ l hlI (intItems xs), st, hfp, by simpa [intItems] using hne, CmpOf.ints_lt (numAt xs) (fun _ _ => intItems_at), fun v h' tk hP hk => ?_⟩
  exact h v h' tk (by simpa [intItems] using hP) (old_keptT hk)
theorem min_rawT {its : List Value} {ns : List Int} {Q : Value → Shared → Prop} (hh : A.handled = none) (hl : s.heap.IsTuple l its.toArray) (hi : IntsAre its ns) (hne : 0 < ns.length)
    (h : ∀ h' tk M t', (∀ b o, s.heap.get? b = some o → h'.get? b = some o) → M ∈ ns → (∀ a, a ∈ ns → M ≤ a) → Q (.int M t') { s with heap := h', toks := tk }) : wpAny (model prog w) A (call (.builtin "min") [.ref l]) Q E s := by
  obtain ⟨xs, e⟩ := hi.allInts.items
  have hn : numsOf (intItems xs).toList = ns := by rw [← e]; exact hi.numsOf
  rw [nums_intItems] at hn
  subst hn
  rw [e] at hl
  have hsz : 0 < xs.size := by simpa using hne
  refine min_intTuple hh hl hsz fun v h' tk hv hk => ?_
  obtain ⟨t, rfl⟩ := intItems_at hv
  obtain ⟨h1, h2⟩ := argBest_lt (numAt xs) (xs.size - 1)
  refine h h' tk _ t hk ?_ fun a ha => ?_
  · rw [numAt_eq]; exact PySem.getD_mem (by rw [List.length_map, Array.length_toList]; omega)
  · obtain ⟨j, hj, rfl⟩ := mem_getD ha
    rw [List.length_map, Array.length_toList] at hj
    rw [← numAt_eq]; exact h2 j (by omega)
end
def rMinT (K : PySem.W.Frag) : List V → Hp → VK → Prop := fun vs H Q => ∃ (a : Addr) (ns : List Int), vs = [V.ref a] ∧ SqT K H a (ns.map V.int) ∧ 0 < ns.length ∧ ∀ m, m ∈ ns → (∀ y, y ∈ ns → m ≤ y) → Q (.int m) H
theorem cr_minT {X : Cx} (hc : X.calm = true) : CallR X (.builtin "min") (rMinT X.K) := by
  intro pins s σ H vs us Q I r h
  obtain ⟨a, ns, rfl, hs, hne, q⟩ := h
  obtain ⟨its, rv, hl, _⟩ := I.tuple hs
  rw [Vals.ref1 r]
  exact min_rawT (I.ok.hd hc) hl rv.ints hne fun h' tk m t' hk h1 h2 => ⟨.int _, H, I.kept hk, ⟨_, rfl⟩, q m h1 h2⟩
section
variable {X : Cx} {L : Lv} {e a b c : Expr} {es : List Expr} {fa fb fc : FE} {ft fu : FT} {fr : FA} {pos p : Pos}
variable {K : PySem.W.Frag}
def liftO (X : Cx) (L : Lv) (fo : FO) : TO := fun σ H Q => ∃ Z Y s Xf Qf, Rel X.K Z Y H σ s ∧ L.keeps σ ∧ XOk X L Z Y Xf ∧ fo Xf s Qf ∧ ∀ o H' Z' s', Same Z Z' → Rel X.K Z' Y H' σ s' → Qf o s' → Q o H'
def PFO (X : Cx) (L : Lv) (e : Option Expr) (fo : FO) : Prop := PO X e (liftO X L fo)
theorem PO_imp {eo : Option Expr} {t t' : TO} (h : PO X eo t) (hi : ∀ σ H Q, t' σ H Q → t σ H Q) : PO X eo t' := ⟨fun pins s σ H Q I q => h.run pins s σ H Q I (hi σ H Q q)⟩
theorem pfo_none : PFO X L none fNoPart := PO_imp po_none fun σ H Q ⟨Z, Y, s, Xf, Qf, r, k, xo, h, q⟩ => q none H Z s (Same.refl _) r h
theorem pfo_some (h : PF X L e fa) : PFO X L (some e) (fPart fa) := PO_imp (po_some h) fun σ H Q ⟨Z, Y, s, Xf, Qf, r, k, xo, h, q⟩ => by
  refine ⟨Z, Y, s, Xf, _, r, k, xo, h, fun v H1 Z1 r1 s1 hz rx h1 => ?_⟩
  split at h1
  · exact ⟨_, rx.vi, q _ H1 Z1 s1 hz rx.rel0 h1⟩
  · exact h1.elim
def rFs (K : PySem.W.Frag) (g : D → Option Int → Option Int → (R → Prop) → Prop) : V → Option Int → Option Int → Hp → VK → Prop := fun x lo hi H Q => ∃ Z d Qf, Same Z H ∧ RpV K Z H x d ∧ g d lo hi Qf ∧ ∀ u H' Z' r, NewR K Z H Z' H' u r → Qf r → Q u H'
theorem fSl_ok {g : D → Option Int → Option Int → (R → Prop) → Prop} {fl fh : FO} {σ : St} {H : Hp} {Q : VK} (h : liftE X L (fSl g fa fl fh) σ H Q) : tSl (rFs X.K g) (liftE X L fa) (liftO X L fl) (liftO X L fh) σ H Q := by
  obtain ⟨Z, Y, s, Xf, Qf, r, k, xo, h, q⟩ := h
  refine ⟨Z, Y, s, Xf, _, r, k, xo, h, fun v H1 Z1 r1 s1 hz rx h1 => ?_⟩
  obtain ⟨Y', hy, rl, bk, fw⟩ := rx.frame
  refine ⟨Z1, Y', s1, Xf, _, rl, k, (xo.z hz).mono (Same.refl _) bk, h1, fun lo H2 Z2 s2 hz2 r2 h2 => ?_⟩
  refine ⟨Z2, Y', s2, Xf, _, r2, k, (xo.z (hz.trans hz2)).mono (Same.refl _) fun Z' H' σ' s' hz' => bk Z' H' σ' s' (hz2.trans hz'), h2, fun hi H3 Z3 s3 hz3 r3 h3 => ?_⟩
  have rx3 := fw Z3 H3 s3 [] [] (hz2.trans hz3) (.nil r3)
  obtain ⟨d, e1, h4⟩ := look_ok h3
  obtain ⟨v', ev, rv⟩ := rx3.look (k := 0) rfl e1
  cases ev
  exact ⟨Z3, d, _, rx3.rel0.zh, rv, h4, fun u H' Z' r n hq => q u H' Z' r s3 (((hz.trans hz2).trans hz3).trans n.hz) (rx3.rel0.new n) hq⟩
theorem RpAll.cut {Z : Hp} {vs : List V} {ds : List D} (r : RpAll K Z vs ds) (lo hi : Option Int) : RpAll K Z (cutV vs lo hi) (slD.cutL ds lo hi) := by
  unfold cutV slD.cutL
  rw [r.length]
  exact (r.drop _).take _
theorem fsl : SlR X (rFs X.K slD) := by
  intro pins s σ H x v vl vu lo hi sl Q I rx hs pl pu ⟨Z, d, Qf, hz, hd, g, q⟩
  unfold slD at g
  split at g
  · obtain ⟨p, vs, rfl, h1, h2, h3⟩ := hd.list hz
    exact sl_list pins s σ H _ v vl vu lo hi sl Q I rx hs pl pu ⟨p, vs, rfl, .inl h1, fun n hn => q _ _ Z _ (.lst hz hn (Nat.le_trans (cutV_length vs lo hi) h2) (h3.cut lo hi)) g⟩
  · obtain ⟨p, vs, rfl, h1, h2, h3⟩ := hd.tuple hz
    refine sl_tupA pins s σ H _ v vl vu lo hi sl Q I rx hs pl pu ⟨p, vs, rfl, h1, fun hw => ?_, fun hw n hn => q _ _ _ _ (.tup hz hn (Nat.le_trans (cutV_length vs lo hi) h2) (h3.cut lo hi)) g⟩
    rename_i xs0
    have e : slD.cutL xs0 lo hi = xs0 := by
      unfold slD.cutL
      rw [← h3.length, hw.1, hw.2, h3.length, Nat.sub_zero, List.drop_zero, List.take_length]
    rw [e] at g
    exact q _ H Z _ (.d hz (fop_add.RpV.tupZ hd)) g
  · exact g.elim
theorem pf_sl {lo hi : Option Expr} {fl fh : FO} {p2 : Pos} (he : PF X L e fa) (hl : PFO X L lo fl) (hh : PFO X L hi fh) : PF X L (.Subscript e (.Slice lo hi none p2) pos) (fSl slD fa fl fh) := PE_imp (pe_slice fsl he hl hh) fun _ _ _ => fSl_ok
inductive RpVs (K : PySem.W.Frag) (Z H : Hp) : List V → List D → Prop
  | nil : RpVs K Z H [] []
  | cons {v : V} {vs : List V} {d : D} {ds : List D} : RpV K Z H v d → RpVs K Z H vs ds → RpVs K Z H (v :: vs) (d :: ds)
def rFN (K : PySem.W.Frag) (g : VN) : List V → Hp → VK → Prop := fun vs H Q => ∃ Z ds Qf, Same Z H ∧ RpVs K Z H vs ds ∧ g ds Qf ∧ ∀ u H' Z' r, NewR K Z H Z' H' u r → Qf r → Q u H'
theorem lookAll_ok {Z H : Hp} {s : S} : ∀ {rs : List R} {vs : List V} {k : List D → Prop}, vs.length = rs.length → (∀ (j : Nat) q d, rs[j]? = some q → viewR s q = some d → ∃ v, vs[j]? = some v ∧ RpV K Z H v d) → fBlt.lookAll s rs k → ∃ ds, RpVs K Z H vs ds ∧ k ds
  | [], [], k, hl, hv, h => ⟨[], .nil, h⟩
  | [], _ :: _, k, hl, hv, h => by cases hl
  | r :: rs, [], k, hl, hv, h => by cases hl
  | r :: rs, v :: vs, k, hl, hv, h => by
    obtain ⟨d, e, h2⟩ := look_ok h
    obtain ⟨v', ev, rv⟩ := hv 0 r d rfl e
    cases ev
    obtain ⟨ds, rr, h3⟩ := lookAll_ok (by simpa using hl) (fun j q d h1 h2 => hv (j + 1) q d h1 h2) h2
    exact ⟨d :: ds, .cons rv rr, h3⟩
theorem fBlt_ok {g : VN} {n : Nat} {σ : St} {H : Hp} {Q : VK} (h : liftE X L (fBlt g fr) σ H Q) : tCB (rFN X.K g) (liftA X L n fr) σ H Q := by
  obtain ⟨Z, Y, s, Xf, Qf, r, k, xo, h, q⟩ := h
  refine ⟨Z, Y, s, Xf, _, r, k, xo, h, fun vs H1 Z1 rs s1 hz rx hn h1 => ?_⟩
  obtain ⟨ds, rr, h2⟩ := lookAll_ok rx.l2 (fun j q d e1 e2 => rx.look e1 e2) h1
  exact ⟨Z1, ds, _, rx.rel0.zh, rr, h2, fun u H' Z' r n hq => q u H' Z' r s1 (hz.trans n.hz) (rx.rel0.new n) hq⟩
variable {x : Str} {id T : String}
theorem pf_blt {g : VN} (hc : CallR X (.builtin id) (rFN X.K g)) (hm : X.mg x = none) (hv : bootBuiltins x = some (.builtin id)) (ha : PFA X L (e :: es) fr) (hg : Gl X x := by rfl) (hn : x ≠ "__name__" := by decide) (hdb : (x == ("__debug__" : Str)) = false := by decide)
    (he : starEach (e :: es) X.env = (false, eval e X.env) :: starEach es X.env := by rfl) (hpl : (backTo pos (starEach es X.env)).any (·.1) = false := by rfl) : PF X L (.Call (.Name x p) (e :: es) [] pos) (fBlt g fr) := PE_imp (pe_callB hc hg hm hv ha hn hdb he hpl) fun _ _ _ => fBlt_ok
theorem pf_bty {g : VN} (hc : CallR X (.type T) (rFN X.K g)) (hm : X.mg x = none) (hv : bootBuiltins x = some (.type T)) (ha : PFA X L (e :: es) fr) (hg : Gl X x := by rfl) (hn : x ≠ "__name__" := by decide) (hdb : (x == ("__debug__" : Str)) = false := by decide)
    (he : starEach (e :: es) X.env = (false, eval e X.env) :: starEach es X.env := by rfl) (hpl : (backTo pos (starEach es X.env)).any (·.1) = false := by rfl) : PF X L (.Call (.Name x p) (e :: es) [] pos) (fBlt g fr) := PE_imp (pe_callTy hc hg hm hv ha hn hdb he hpl) fun _ _ _ => fBlt_ok
theorem RpVs.one {Z H : Hp} {vs : List V} {d : D} (r : RpVs K Z H vs [d]) : ∃ v, vs = [v] ∧ RpV K Z H v d := by
  cases r with
  | cons h r => cases r; exact ⟨_, rfl, h⟩
theorem RpVs.two {Z H : Hp} {vs : List V} {d e : D} (r : RpVs K Z H vs [d, e]) : ∃ v w, vs = [v, w] ∧ RpV K Z H v d ∧ RpV K Z H w e := by
  cases r with
  | cons h r =>
    cases r with
    | cons h2 r => cases r; exact ⟨_, _, rfl, h, h2⟩
theorem fb_len : CallR X (.builtin "len") (rFN X.K bLen) := by
  intro pins s σ H vs us Q I rv ⟨Z, ds, Qf, hz, rr, g, q⟩
  unfold bLen at g
  split at g
  · obtain ⟨v, rfl, r1⟩ := rr.one
    obtain ⟨p, vs, rfl, h1, h2, h3⟩ := r1.list hz
    exact call_len pins s σ H _ us Q I rv ⟨_, vs.length, rfl, .inl ⟨vs, .inl h1, rfl⟩, by rw [h3.length]; exact q _ H Z _ (.d hz (.int _)) g⟩
  · obtain ⟨v, rfl, r1⟩ := rr.one
    obtain ⟨p, vs, rfl, h1, h2, h3⟩ := r1.tuple hz
    exact call_len pins s σ H _ us Q I rv ⟨_, vs.length, rfl, .inr ⟨vs, h1, rfl⟩, by rw [h3.length]; exact q _ H Z _ (.d hz (.int _)) g⟩
  · obtain ⟨v, rfl, r1⟩ := rr.one
    cases r1.str
    exact call_len pins s σ H _ us Q I rv ⟨_, _, rfl, ⟨g.1, rfl⟩, q _ H Z _ (.d hz (.int _)) g.2⟩
  · obtain ⟨v, rfl, r1⟩ := rr.one
    obtain ⟨p, ns, rfl, rfl, h1, h2⟩ := r1.lit hz
    exact call_len pins s σ H _ us Q I rv ⟨_, _, rfl, .inl ⟨_, h1, rfl⟩, by rw [List.length_map]; rw [List.length_map] at g; exact q _ H Z _ (.d hz (.int _)) g⟩
  · exact g.elim
theorem fb_max2 (hc : X.calm = true) : CallR X (.builtin "max") (rFN X.K bMax2) := by
  intro pins s σ H vs us Q I rv ⟨Z, ds, Qf, hz, rr, g, q⟩
  unfold bMax2 at g
  split at g
  · obtain ⟨v, w, rfl, r1, r2⟩ := rr.two
    cases r1.int; cases r2.int
    exact call_max2 hc pins s σ H _ us Q I rv ⟨_, _, rfl, q _ H Z _ (.d hz (.int _)) g⟩
  · exact g.elim
theorem fb_min2 (hc : X.calm = true) : CallR X (.builtin "min") (rFN X.K bMin2) := by
  intro pins s σ H vs us Q I rv ⟨Z, ds, Qf, hz, rr, g, q⟩
  unfold bMin2 at g
  split at g
  · obtain ⟨v, w, rfl, r1, r2⟩ := rr.two
    cases r1.int; cases r2.int
    exact call_min2 hc pins s σ H _ us Q I rv ⟨_, _, rfl, q _ H Z _ (.d hz (.int _)) g⟩
  · exact g.elim
theorem fb_tuple : CallR X (.type "tuple") (rFN X.K bTuple) := by
  intro pins s σ H vs us Q I rv ⟨Z, ds, Qf, hz, rr, g, q⟩
  unfold bTuple at g
  split at g
  · obtain ⟨v, rfl, r1⟩ := rr.one
    obtain ⟨p, vs, rfl, h1, h2, h3⟩ := r1.list hz
    exact call_tuple_of pins s σ H _ us Q I rv ⟨p, vs, rfl, .inl ⟨.inl h1, fun n hn => q _ _ _ _ (.tup hz hn h2 h3) g⟩⟩
  · obtain ⟨v, rfl, r1⟩ := rr.one
    obtain ⟨p, vs, rfl, h1, h2, h3⟩ := r1.tuple hz
    exact call_tuple_of pins s σ H _ us Q I rv ⟨p, vs, rfl, .inr ⟨h1, q _ H Z _ (.d hz (fop_add.RpV.tupZ r1)) g⟩⟩
  · exact g.elim
theorem fb_list : CallR X (.type "list") (rFN X.K bList) := by
  intro pins s σ H vs us Q I rv ⟨Z, ds, Qf, hz, rr, g, q⟩
  unfold bList at g
  split at g
  · obtain ⟨v, rfl, r1⟩ := rr.one
    obtain ⟨p, vs, rfl, h1, h2, h3⟩ := r1.list hz
    exact call_list_of pins s σ H _ us Q I rv ⟨p, vs, rfl, .inl (.inl h1), fun n hn => q _ _ Z _ (.lst hz hn h2 h3) g⟩
  · obtain ⟨v, rfl, r1⟩ := rr.one
    obtain ⟨p, vs, rfl, h1, h2, h3⟩ := r1.tuple hz
    exact call_list_of pins s σ H _ us Q I rv ⟨p, vs, rfl, .inr h1, fun n hn => q _ _ Z _ (.lst hz hn h2 h3) g⟩
  · exact g.elim
theorem fb_all (hc : X.calm = true) : CallR X (.builtin "all") (rFN X.K bAll) := by
  intro pins s σ H vs us Q I rv ⟨Z, ds, Qf, hz, rr, g, q⟩
  unfold bAll at g
  split at g
  · split at g
    · rename_i eb
      obtain ⟨v, rfl, r1⟩ := rr.one
      obtain ⟨p, vs, rfl, h1, h2, h3⟩ := r1.list hz
      rw [boolsOf_eq eb] at h3
      rw [h3.bools] at h1
      exact cr_all hc pins s σ H _ us Q I rv ⟨p, _, rfl, .inl h1, q _ H Z _ (.d hz (.bl _)) g⟩
    · exact g.elim
  · exact g.elim
theorem fb_any (hc : X.calm = true) : CallR X (.builtin "any") (rFN X.K bAny) := by
  intro pins s σ H vs us Q I rv ⟨Z, ds, Qf, hz, rr, g, q⟩
  unfold bAny at g
  split at g
  · split at g
    · rename_i eb
      obtain ⟨v, rfl, r1⟩ := rr.one
      obtain ⟨p, vs, rfl, h1, h2, h3⟩ := r1.list hz
      rw [boolsOf_eq eb] at h3
      rw [h3.bools] at h1
      exact cr_any hc pins s σ H _ us Q I rv ⟨p, _, rfl, .inl h1, q _ H Z _ (.d hz (.bl _)) g⟩
    · exact g.elim
  · exact g.elim
theorem fb_minL (hc : X.calm = true) : CallR X (.builtin "min") (rFN X.K bMinL) := by
  intro pins s σ H vs us Q I rv ⟨Z, ds, Qf, hz, rr, g, q⟩
  unfold bMinL at g
  split at g
  · split at g
    · rename_i eb
      obtain ⟨v, rfl, r1⟩ := rr.one
      obtain ⟨p, vs, rfl, h1, h2, h3⟩ := r1.list hz
      rw [intsOf_eq eb] at h3
      rw [h3.ints] at h1
      exact cr_min hc pins s σ H _ us Q I rv ⟨p, _, rfl, .inl h1, g.1, fun m hm hy => q _ H Z _ (.d hz (.int _)) (g.2 m hm hy)⟩
    · exact g.elim
  · split at g
    · rename_i eb
      obtain ⟨v, rfl, r1⟩ := rr.one
      obtain ⟨p, vs, rfl, h1, h2, h3⟩ := r1.tuple hz
      rw [intsOf_eq eb] at h3
      rw [h3.ints] at h1
      exact cr_minT hc pins s σ H _ us Q I rv ⟨p, _, rfl, h1, g.1, fun m hm hy => q _ H Z _ (.d hz (.int _)) (g.2 m hm hy)⟩
    · exact g.elim
  · exact g.elim
def tyName : D → String
  | .none => "NoneType"
  | .bool _ => "bool"
  | .int _ => "int"
  | .str _ => "str"
  | .list _ => "list"
  | .tuple _ => "tuple"
  | .dict _ => "dict"
/-- what isinstance is asked of: also a dict with tuple keys that is locked -/
def TyY (K : PySem.W.Frag) (H : Hp) (v : V) (t : Value) : Prop := TyX K H v t ∨ ∃ a o kvs, v = .ref a ∧ H a = some (.frz o (.dT kvs)) ∧ t = .type "dict"
def rIsiY (K : PySem.W.Frag) : List V → Hp → VK → Prop := fun xs H Q => ∃ (x c : V) (t u : Value) (b : Bool), xs = [x, c] ∧ ClsV c u ∧ TyY K H x t ∧ PySem.W.kitOne K t u = some b ∧ Q (.bl b) H
theorem call_isiY {X : Cx} : CallR X (.builtin "isinstance") (rIsiY X.K) := by
  intro pins s σ H xs us Q I r h
  obtain ⟨x, c, t, u, b, rfl, k, ty, e, q⟩ := h
  rcases ty with ty | ⟨a, o, kvs, rfl, ea, rfl⟩
  · exact call_isi pins s σ H _ us Q I r ⟨x, c, t, u, b, rfl, k, ty, e, q⟩
  · obtain ⟨u1, u2, rfl, r1, r2⟩ := vals2 r
    have e2 := k.eq r2
    subst e2
    cases (show u1 = Value.ref a from r1)
    obtain ⟨_, _, _, xs, _, o', es, ep, h1, h2, _⟩ := (show ObjOk X.prog X.w H s.heap a (.frz o (.dT kvs)) from I.hok a _ ea)
    exact PySem.W.kia_one PySem.W.kitx_dict I.kIn ⟨o', h1, h2.1⟩ e (fun z => nomatch z) fun tk => ⟨.bl b, H, I.tok tk, rfl, q⟩
theorem tyX_of {H : Hp} {v : V} {d : D} (r : Rp K H v d) (hl : isLit d = false) : TyY K H v (.type (tyName d)) := by
  cases r with
  | lit h z => cases hl
  | exc h => cases hl
  | tf h c d z => cases hl
  | obj h1 h2 a => cases hl
  | non => exact .inl <| .base .non
  | bl b => exact .inl <| .base (.bl b)
  | int i => exact .inl <| .base (.int i)
  | str x => exact .inl <| .base (.str x)
  | lst h z a =>
    rcases h with h | ⟨o, h⟩
    · exact .inl <| .base (.lst h)
    · exact .inl <| .base (.frz h)
  | tup h z a => exact .inl <| .base (.tup h)
  | dcK h a =>
    rcases h with h | ⟨o, h⟩
    · exact .inl <| .base (.dK h)
    · exact .inl (.fDict h)
  | dcT h a =>
    rcases h with h | ⟨o, h⟩
    · exact .inl (.base (.dT h))
    · exact .inr ⟨_, o, _, rfl, h, rfl⟩
/-- the classes that are asked for -/
inductive AskTy : String → Prop
  | int : AskTy "int" | bool : AskTy "bool" | tuple : AskTy "tuple" | list : AskTy "list" | str : AskTy "str" | dict : AskTy "dict"
def tyB (n T : String) : Bool := n == T || (n == "bool" && T == "int")
theorem kitTab : ∀ n ∈ ["NoneType", "bool", "int", "str", "list", "tuple", "dict"], ∀ T ∈ ["int", "bool", "tuple", "list", "str", "dict"], kitB n T = some (tyB n T) := by decide +kernel
theorem tyName_mem (d : D) : tyName d ∈ ["NoneType", "bool", "int", "str", "list", "tuple", "dict"] := by cases d <;> simp [tyName]
theorem isTy_eq {T : String} (h : AskTy T) (d : D) : isTy T d = tyB (tyName d) T := by cases h <;> cases d <;> rfl
theorem kit_is {T : String} (h : AskTy T) (d : D) : PySem.W.kitOne K (.type (tyName d)) (.type T) = some (isTy T d) := by
  rw [isTy_eq h]
  exact kit_ty (kitTab _ (tyName_mem d) T (by cases h <;> simp))
theorem pf_isinst {T : String} {tx : Str} {p2 : Pos} (hT : AskTy T) (ha : PF X L a fa) (hm : X.mg "isinstance" = none) (hmT : X.mg tx = none) (hbT : bootBuiltins tx = some (.type T)) (hg : Gl X "isinstance" := by rfl) (hgT : Gl X tx := by rfl)
    (hnT : tx ≠ "__name__" := by decide) (hdT : (tx == ("__debug__" : Str)) = false := by decide) (he : starEach [a, .Name tx p2] X.env = (false, eval a X.env) :: starEach [.Name tx p2] X.env := by rfl) (he2 : starEach [.Name tx p2] X.env = (false, eval (.Name tx p2) X.env) :: starEach [] X.env := by rfl)
    (hpl : (backTo pos (starEach [.Name tx p2] X.env)).any (·.1) = false := by rfl) : PF X L (.Call (.Name "isinstance" p) [a, .Name tx p2] [] pos) (fUn (bIs T) fa) :=
  PE_imp (pe_callB call_isiY hg hm (by decide +kernel) (pa_cons ha (pa_cons (pe_bltn (v := .ty T) hgT hmT hbT rfl hnT hdT) pa_nil he2) he) (by decide) (by decide) he hpl) fun σ H Q ⟨Z, Y, s, Xf, Qf, r, k, xo, h, q⟩ => by
  refine ⟨Z, Y, s, Xf, _, r, k, xo, h, fun v H1 Z1 r1 s1 hz rx h1 => ?_⟩
  obtain ⟨d, e1, h3⟩ := look_ok h1
  obtain ⟨v', ev, rv⟩ := rx.look (k := 0) rfl e1
  cases ev
  exact ⟨v, .ty T, _, .type T, _, rfl, .ty T, tyX_of (rv.rp rx.rel0.zh) h3.1, kit_is hT d, q _ H1 Z1 _ s1 hz (.d rx.rel0 (.bl _)) h3.2⟩
def rLm (K : PySem.W.Frag) (g : LM) : V → List V → Hp → VK → Prop := fun x us H Q => ∃ Z p vs xs ds Qf, x = .ref p ∧ H p = some (.lst vs) ∧ vs.length ≤ sizeLine ∧ RpAll K Z vs xs ∧ Same Z H ∧ RpAll K Z us ds ∧ g xs ds Qf ∧
  ∀ u d vs' xs', Qf d xs' → Rp K Z u d → vs'.length ≤ sizeLine → RpAll K Z vs' xs' → Q u (upd H p (.lst vs'))
theorem onL_ok {i : Nat} {s : S} {k : List D → Prop} (h : onL i s k) : ∃ xs, s.getD i .no = .l xs ∧ k xs := by
  unfold onL at h
  generalize s.getD i .no = w at h
  cases w with
  | l xs => exact ⟨xs, rfl, h⟩
  | _ => exact h.elim
theorem Rel.slotL {Z Y H : Hp} {σ : St} {s : S} (r : Rel K Z Y H σ s) {i : Nat} {xs : List D} (e : s.getD i .no = .l xs) : ∃ p vs, σ.getD i none = some (.ref p) ∧ H p = some (.lst vs) ∧ vs.length ≤ sizeLine ∧ RpAll K Z vs xs := by
  obtain ⟨F, q⟩ := r.slot i
  rw [e] at q
  obtain ⟨p, vs, h1, _, h3, h4, h5⟩ := q
  exact ⟨p, vs, h1, h3, h4, h5⟩
theorem fLm_ok {i n : Nat} {g : LM} {σ : St} {H : Hp} {Q : VK} (h : liftE X L (fLm i g fr) σ H Q) : tBM X.K "list" (rLm X.K g) (tVar i) (liftA X L n fr) σ H Q := by
  obtain ⟨Z, Y, s, Xf, Qf, r, k, xo, h, q⟩ := h
  obtain ⟨xs0, e0, h⟩ := onL_ok h
  obtain ⟨p, vs, hv, hp, _, _⟩ := r.slotL e0
  refine ⟨.ref p, getD_some hv, .inl ⟨rfl, vs, .inl (.inl hp)⟩, Z, Y, s, Xf, _, r, k, xo, h, fun us H1 Z1 rs s1 hz rx hn h1 => ?_⟩
  obtain ⟨Z2, ds, s2, hz2, rx2, h2⟩ := frzAll_ok (us := []) (ds := []) rx rfl h1
  obtain ⟨xs, e2, h3⟩ := onL_ok h2
  have r2 := rx2.rel0
  obtain ⟨p', vs', hv', hp', hl', ra'⟩ := r2.slotL e2
  rw [hv] at hv'
  cases hv'
  refine ⟨Z2, p, vs', xs, ds, _, rfl, hp', hl', ra', r2.zh, rx2.rps, h3, fun u d vs2 xs2 hq ru hl2 ra2 => ?_⟩
  have w := r2.write (i := i) (xs' := xs2) (vs' := vs2) e2 hv hl2 ra2
  exact q u _ Z2 _ _ (hz.trans hz2) (.d w ru) hq
variable {nm : Str} {apos cpos : Pos} {y : Str} {px : Pos}
theorem pf_lm (i : Nat) {g : LM} (slot : Slot "list" nm id) (hty : typeOf (.builtin id) = pure (.type "method_descriptor")) (hm : MtR X id (rLm X.K g)) (ha : PFA X L (e :: es) fr)
    (ho : PE X (.Name y px) (tVar i)) (hbase : attributeBase (.Name y px) nm X.env (eval (.Name y px) X.env) = eval (.Name y px) X.env := by rfl)
    (hfew : ((backTo cpos (starEach (e :: es) X.env)).all (fun x => !x.1) && (backToKw cpos (keywordEach [] X.env)).all (fun x => x.1.isSome)
      && decide ((e :: es).length + ([] : List Keyword).length + (if ([] : List Keyword).isEmpty then 0 else 1) < 30)) = true := by rfl)
    (hline : (apos.endLine == cpos.line) = true := by rfl) (hs : starEach (e :: es) X.env = (false, eval e X.env) :: starEach es X.env := by rfl) (hplain : (backTo cpos (starEach es X.env)).any (·.1) = false := by rfl) :
    PF X L (.Call (.Attribute (.Name y px) nm apos) (e :: es) [] cpos) (fLm i g fr) := PE_imp (pe_bm PySem.F.plainAttrs_list slot hty hm ho ha hbase hfew hline hs hplain) fun _ _ _ => fLm_ok
theorem fm_append : MtR X "list.append" (rLm X.K mAppend) := by
  intro pins s σ H x us v vs Q I rx rv ⟨Z, p, ws, xs, ds, Qf, ex, hp, hl, ra, hz, rd, g, q⟩
  unfold mAppend at g
  split at g
  · cases rd with
    | cons r1 r2 =>
      cases r2
      have l1 := ra.length
      exact mt_append pins s σ H x _ v vs Q I rx rv ⟨p, ws, _, ex, rfl, hp, by omega, q _ _ _ _ g.2 .non (by rw [List.length_append]; show ws.length + 1 ≤ _; omega) (ra.append (.cons r1 .nil))⟩
  · exact g.elim
theorem pfs_setIx (i : Nat) {po : Pos} {j : Expr} {fj : FE} (he : PF X L e fa) (ho : PE X (.Name y px) (tVar i)) (hj : PF X L j fj)
    (ha : ∀ v, assign (.Subscript (.Name y px) j po) X.env v = (do
      let ov ← holding [v] (eval (.Name y px) X.env)
      let iv ← holding [v, ov] (eval j X.env)
      standAt po
      holding [v, ov, iv] (setItem ov iv v)
      release [v, ov, iv] []) := by intro _; rfl) (hs : swapsWithSole [.Subscript (.Name y px) j po] e pos.line X.env = pure false := by rfl) (hw : swappedStores [.Subscript (.Name y px) j po] e X.env = pure none := by rfl)
    (h1 : (assignEach [.Subscript (.Name y px) j po] X.env).map (·.2) = [assign (.Subscript (.Name y px) j po) X.env] := by rfl) : PFS X L (.Assign [.Subscript (.Name y px) j po] e pos) (fSetIx i fj fa) :=
  PS_imp (ps_asg he (pg_sub ho hj set_list ha) hs hw h1) fun D σ H ⟨Z, Y, s, Ef, r, k, h, eo⟩ => by
  refine ⟨Z, Y, s, Ef.xx, _, r, k, eo.xx, h, fun v H1 Z1 r1 s1 hz rx h1 => ?_⟩
  obtain ⟨xs0, e0, h1⟩ := onL_ok h1
  obtain ⟨q, vs0, hv, _, _, _⟩ := rx.rel0.slotL e0
  obtain ⟨Y', hy, rl, bk, fw⟩ := rx.frame
  refine ⟨.ref q, getD_some hv, Z1, Y', s1, Ef.xx, _, rl, k, (eo.xx.z hz).mono (Same.refl _) bk, h1, fun w H2 Z2 rj s2 hz2 rx2 h2 => ?_⟩
  split at h2
  · rename_i kk
    have ew := rx2.vi
    subst ew
    have rx3 := fw Z2 H2 s2 [] [] hz2 (.nil rx2.rel0)
    obtain ⟨Z3, d, s3, hz3, rx4, h3⟩ := frz_ok (us := []) (ds := []) (vs := []) (rs := []) rx3 rfl h2
    obtain ⟨xs, e2, h0, hlt, h4⟩ := onL_ok h3
    obtain ⟨q', vs', hv', hp', hl', ra'⟩ := rx4.rel0.slotL e2
    rw [hv] at hv'
    cases hv'
    have w := rx4.rel0.write (i := i) (xs' := xs.set kk.toNat d) (vs' := vs'.set kk.toNat v) e2 hv (by rw [List.length_set]; exact hl') (ra'.set rx4.vd _)
    refine ⟨q, vs', kk, kk.toNat, rfl, rfl, hp', ?_, eo.nx σ _ Z3 _ ((hz.trans hz2).trans hz3) k w h4⟩
    unfold ixN
    rw [if_pos h0, if_pos (by rw [ra'.length]; omega)]
  · exact h2.elim
end
end Hs
namespace Hs
open PySem PySem.Spec PyProof.Rows L2
/-- what is known of a text: the head's facts, the base below -/
structure TxOk (fa : List He.Fa) (fn : List He.DefD) (K : PySem.W.Frag) (mg : Str → Option Value) (base : Heap) : Prop where
  c : He.SaysD fa fn K
  X : K.In base
  G : base.Ns mainGlobals mg
section
variable {fa : List He.Fa} {fn : List He.DefD} {K : PySem.W.Frag} {mg : Str → Option Value} {base : Heap}
theorem TxOk.free (T : TxOk fa fn K mg base) (i : Nat) {x : Str} (h : fa[i]? = some (.free x) := by rfl) : mg x = none := He.free_ok T.X T.G (T.c.fact i h)
theorem TxOk.glo (T : TxOk fa fn K mg base) (i : Nat) {x : Str} (h : fa[i]? = some (.glo x) := by rfl) : mg x = some (.ref (He.ga K x)) := He.glo_ok T.X T.G (T.c.fact i h)
theorem TxOk.int (T : TxOk fa fn K mg base) (i : Nat) {x : Str} {z : Int} (h : fa[i]? = some (.int x z) := by rfl) : ∃ t, mg x = some (.int z t) := He.int_ok T.X T.G (T.c.fact i h)
theorem TxOk.str (T : TxOk fa fn K mg base) (i : Nat) {x z : Str} (h : fa[i]? = some (.str x z) := by rfl) : ∃ t, mg x = some (.str z t) := He.str_ok T.X T.G (T.c.fact i h)
theorem TxOk.exc (T : TxOk fa fn K mg base) (i : Nat) {x : Str} (h : fa[i]? = some (.exc x) := by rfl) : PySem.W.excIn K (He.ga K x) He.veBase "ValueError.__new__" = true ∧ PySem.W.keepIn K (.ref (He.ga K x)) = true ∧ PySem.W.subIn K (.ref (He.ga K x)) (.type "BaseException") = some true ∧ PySem.W.typeIn K (.ref (He.ga K x)) = some (.type "type") := He.exc_ok (T.c.fact i h)
end
/-- a def of the text -/
def Df (P : Program) (w : World) (K : PySem.W.Frag) (mg : Str → Option Value) (base : Heap) (x : Str) (k : Nat) (ps : List Str) (ms : List Bool) (sem : FSem) : Prop :=
  ∃ f fd, FnOk P w K mg base (L2.CX P w) k f fd ps (liftSp K mg (ioOf ms) ps.length sem) ∧ Binds K fd ps [] ∧ mg x = some (.ref f) ∧ PySem.W.keepIn K (.ref f) = true
theorem funOf {K : PySem.W.Frag} {x q : Str} {st : Stmt} {f : Addr} {fd : FuncData} {kws : List (Str × V)} (F : FunD K x q (defArgs st) (defBody st) (defScope st) [] kws f fd) : Fun K x q st f fd := by
  obtain ⟨oc, od, dV, kV, doc, pm, an, cdv, ct, osl, e, l, c, hd, hk⟩ := F.ex
  rcases hd with ⟨h0, h1⟩ | ⟨h0, _⟩
  · subst h1
    exact ⟨⟨oc, od, kV, doc, pm, an, cdv, ct, osl, e, l, c⟩, F.kp⟩
  · exact (h0 rfl).elim
section
variable {P : Program} {w : World} {K : PySem.W.Frag} {mg : Str → Option Value} {base : Heap} {fa : List He.Fa} {fn : List He.DefD}
theorem dfOk (T : TxOk fa fn K mg base) {x : Str} {st : Stmt} {N ps : List Str} {ms : List Bool} {bd : FS} {k : Nat} (i j : Nat) (sco : FnScope N ps (defScope st)) (hnp : ps.length ≤ N.length)
    (hbi : ∀ (kV doc pm : Value) (an : Option Addr) (cdv ct : Value) (us : List Value), us.length = ps.length → bindArgs (PySem.W.fnOf x x (defArgs st) (defBody st) (defScope st) .none kV doc pm an cdv ct) ⟨us, []⟩ = pure (ps.zip us))
    (hb : ∀ (f : Addr) (cdv : Value) (A : Around) (outer : List Env) (s : Shared) (H : Hp) (vs : List V) (E : XK), Room k (A.deeper (envOfC x (defScope st) s.heap.objs.size f cdv)) →
      PFSs (cxOf (L2.CX P w) P w K mg base N x (defScope st) f cdv A outer s H E) ⟨fun cls d _ H => E cls d H, ioOf ms, L2.start N vs⟩ (defBody st) bd)
    (h : fn[i]? = some (dOf x st) := by rfl) (hg : fa[j]? = some (.glo x) := by rfl) : Df P w K mg base x (k + 1) ps ms (semOf ps.length N.length bd) := by
  obtain ⟨fd, F⟩ := T.c.def_ i h
  exact ⟨_, fd, okF (funOf F) sco hnp fun cdv A outer s H vs E hr => hb _ cdv A outer s H vs E hr, F.bindsN hbi, T.glo j hg, F.kp⟩
theorem Df.up {x : Str} {j k : Nat} {ps : List Str} {ms : List Bool} {sem : FSem} (D : Df P w K mg base x j ps ms sem) (h : j ≤ k) : Df P w K mg base x k ps ms sem := by
  obtain ⟨f, fd, F, b, m, kp⟩ := D
  exact ⟨f, fd, F.mono h, b, m, kp⟩
variable {X : Cx} {L : Lv} {e a b : Expr} {es : List Expr} {fr : FA} {pos p : Pos} {x : Str} {ps : List Str} {ms : List Bool} {k : Nat}
theorem pf_callD {sem : FSem} (D : Df X.prog X.w X.K X.mg X.base x k ps ms sem) (hr : Room k X.A) (hx : ∀ σ, PassesAt (L2.CX X.prog X.w) X σ (fun cls d H => L.E cls d σ H)) (ha : PFA X L (e :: es) fr) (hl : ps.length = es.length + 1 := by rfl) (hg : Gl X x := by rfl)
    (hn : ms.length = es.length + 1 := by rfl) (hdb : (x == ("__debug__" : Str)) = false := by decide) (he : starEach (e :: es) X.env = (false, eval e X.env) :: starEach es X.env := by rfl) (hpl : (backTo pos (starEach es X.env)).any (·.1) = false := by rfl) :
    PF X L (.Call (.Name x p) (e :: es) [] pos) (fCall sem ms fr) := by
  obtain ⟨f, fd, F, bi, m, kp⟩ := D
  rw [hl] at F
  exact pf_call F hr m kp bi hx ha hg hn hdb he hpl
theorem _root_.L2.Room.u64 {A : Around} (r : Room k A) : A.units + 64 < cLine := by have := r.un; omega
theorem _root_.L2.Room.u65 {A : Around} (r : Room k A) : A.units + 65 < cLine := by have := r.un; omega
theorem pfs_raise {C : Addr} {m : Str} {j : Nat} {p2 pos' : Pos} (hc : X.calm = true) (tk : Takes X L.E) (gC : X.mg x = some (.ref C))
    (q : PySem.W.excIn X.K C He.veBase "ValueError.__new__" = true ∧ PySem.W.keepIn X.K (.ref C) = true ∧ PySem.W.subIn X.K (.ref C) (.type "BaseException") = some true ∧ PySem.W.typeIn X.K (.ref C) = some (.type "type")) (hg : Gl X x := by rfl) (hdb : (x == ("__debug__" : Str)) = false := by decide) :
    PFS X L (.Raise (some (.Call (.Name x p) [.Constant (.str m) j p2] [] pos)) none pos') (fRaise x) :=
  PS_imp (ps_raise hc tk (pmk_own PySem.F.excBase_ValueError q.1 gC q.2.1 (raises_own q.2.2.1 q.2.2.2) hg hdb)) fun D σ H ⟨Z, Y, s, Ef, r, kk, h, eo⟩ => eo.xx x C Z H σ s (Same.refl _) kk r h gC
theorem pf_globI {i : Int} (h : ∃ t, X.mg x = some (.int i t)) (hg : Gl X x := by rfl) (hd : (x == ("__debug__" : Str)) = false := by decide) : PF X L (.Name x pos) (fC (.int i)) := by
  obtain ⟨t, e⟩ := h
  exact pf_C (pe_glob (v := .int i) hg e ⟨t, rfl⟩ hd) fun _ => .int i
/-- a power of constants -/
theorem pf_powC {i j : Int} (r : Int) {k1 k2 : Nat} {p1 p2 : Pos} (h1 : 0 ≤ j := by decide) (h2 : j ≤ 1000000 := by decide) (h3 : i.natAbs < 2 ^ 64 := by decide) (e : i ^ j.toNat = r := by decide) : PF X L (.BinOp (.Constant (.int i) k1 p1) .Pow (.Constant (.int j) k2 p2) pos) (fC (.int r)) :=
  PE_imp (pf_op fop_pow pf_int pf_int) fun σ H Q ⟨Z, Y, s, Xf, Qf, rl, kk, xo, h, q⟩ => ⟨Z, Y, s, Xf, Qf, rl, kk, xo, ⟨h1, h2, h3, by rw [e]; exact h⟩, q⟩
theorem bb_len : bootBuiltins "len" = some (.builtin "len") := by decide +kernel
theorem bb_max : bootBuiltins "max" = some (.builtin "max") := by decide +kernel
theorem bb_min : bootBuiltins "min" = some (.builtin "min") := by decide +kernel
theorem bb_all : bootBuiltins "all" = some (.builtin "all") := by decide +kernel
theorem bb_any : bootBuiltins "any" = some (.builtin "any") := by decide +kernel
theorem bb_sorted : bootBuiltins "sorted" = some (.builtin "sorted") := by decide +kernel
theorem bb_int : bootBuiltins "int" = some (.type "int") := by decide +kernel
theorem bb_tuple : bootBuiltins "tuple" = some (.type "tuple") := by decide +kernel
theorem bb_list : bootBuiltins "list" = some (.type "list") := by decide +kernel
theorem bb_bool : bootBuiltins "bool" = some (.type "bool") := by decide +kernel
theorem bb_dict : bootBuiltins "dict" = some (.type "dict") := by decide +kernel
theorem lawSp {sem : FSem} {H : Hp} {a : Addr} {ns : List Int} {ms : List Bool} (hS : SqL K H a (ns.map V.int)) (hz : ns.length ≤ sizeLine) (h : sem [.d (litD ns)] (fun _ _ => False) (fun r _ => r = .d (.bool true))) :
    liftSp K mg (ioOf ms) 1 sem [.ref a] H (fun v _ => v = .bl true) fun _ _ _ => False := by
  refine ⟨H, fun _ => none, [.d (litD ns)], _, _, rfl, ⟨Same.refl _, fun a q e => (nomatch e), fun _ _ => rfl, fun _ _ e => (nomatch e), rfl, ⟨fun _ => [], ⟨fun i => ?_, fun _ => .nil, fun i j a ha => (nomatch ha), fun i a ha => (nomatch ha)⟩⟩⟩, h, ?_, ?_⟩
  · cases i with
    | zero => exact ⟨rfl, .ref a, rfl, .lit hS hz⟩
    | succ i => exact rfl
  · intro u H' Z' σ' fin r hz kk hl rx nt e
    subst e
    have q := rx.vd
    cases q
    rfl
  · intro n C H' Z' σ' fin _ _ _ _ h _
    exact h.elim
theorem walk_ofBE {l : PySem.W.OpenLaw} {n k : Nat} {q : Program} {loose : List Str} {XP : (Str → Option Value) → Heap → Prop} {YP : World → Heap → Prop} {d : DefRec} {ms : List Bool} {sem : FSem}
    (hn : l.most = some n) (hn2 : n ≤ sizeLine) (hdf : d.params.defaults = []) (hr : Room k callerA)
    (F : ∀ (w : World) (mg : Str → Option Value) (f : Addr) (h : Heap), YP w h → h.Ns mainGlobals mg → mg d.name = some (.ref f) →
      ∃ (K : PySem.W.Frag) (fd : FuncData), K.In h ∧ (∀ (s : Shared) (u : Value), BindsTo s fd ⟨[u], []⟩ [("script", u)]) ∧
        ∀ base : Heap, K.In base → base.Ns mainGlobals mg → FnOk l.prog w K mg base (L2.CX l.prog w) k f fd ["script"] (liftSp K mg (ioOf ms) 1 sem))
    (law : ∀ ns : List Int, ns.length ≤ n → (∀ z ∈ ns, Builtin.Int.intBits z ≤ 1048576) → sem [.d (litD ns)] (fun _ _ => False) (fun r _ => r = .d (.bool true))) :
    PySem.W.WalkO q loose XP YP l.row.toRowW d [] (fun f vs => PySem.call f vs) := by
  refine Att.attach_callB hn hdf fun w s₀ s₁ mg mb f o pm cd doc a vs ns G Y ho hd hcd hmg hobj hints hlen hbits hg => ?_
  obtain ⟨K, fd, KX, hb, hF⟩ := F w mg f _ Y G.T.g hmg
  exact law_call KX G.T.g G.T.b G.T.builtins G.T.nolimit hg hobj hints (Nat.le_trans hlen hn2) hr hF hb (fun H hO hS => lawSp hS (Nat.le_trans hlen hn2) (law ns hlen hbits)) fun H e s' ⟨_, _, _, _, _, _, _, _, _, _, _, _, z⟩ => z
end
end Hs
namespace Hs
open PySem PySem.Spec PyProof.Rows L2
def iEnumL (a : FA) : FI := fun X s Q => a X s fun rs s1 => frzAll rs s1 fun ds s2 => match ds with
  | [.list xs] => Q (enumD xs) s2
  | [.tuple xs] => Q (enumD xs) s2
  | _ => False
def iZipS (a : FA) : FI := fun X s Q => a X s fun rs s1 => frzAll rs s1 fun ds s4 => match ds with
  | [.list xs, .list ys] => Q (zipD xs ys) s4
  | [.tuple xs, .tuple ys] => Q (zipD xs ys) s4
  | _ => False
abbrev mkT (xs : List D) : R := .d (.tuple xs)
def fRg1 (mk : List D → R) (a : FE) : FE := fun X s Q => a X s fun r s1 => match r with
  | .d (.int j) => RgOk 0 j ∧ Q (mk (rangeD 0 j.toNat)) s1
  | _ => False
def fRg2 (mk : List D → R) (a b : FE) : FE := fun X s Q => a X s fun r1 s1 => b X s1 fun r2 s2 => match r1, r2 with
  | .d (.int i), .d (.int j) => RgOk i j ∧ Q (mk (rangeD i (j - i).toNat)) s2
  | _, _ => False
section
variable {X : Cx} {L : Lv} {e a b c : Expr} {es : List Expr} {fa fb fc : FE} {fr : FA} {pos p : Pos} {K : PySem.W.Frag} {Z H : Hp}
theorem rg_all {i j : Int} : RpAll K Z (rgV i j) (rangeD i (j - i).toNat) := by
  unfold rgV rangeD
  generalize (j - i).toNat = n
  induction n with
  | zero => exact .nil
  | succ n ih =>
    rw [List.range_succ, List.map_append, List.map_append]
    exact ih.append (.cons (.int _) .nil)
theorem rg_len {i j : Int} (h : RgOk i j) : (rgV i j).length ≤ sizeLine := by
  rw [rgV_length]
  obtain ⟨_, _, _, _, h5⟩ := h
  show _ ≤ 16777216
  omega
theorem newT {v : List V} {ds : List D} {σ : St} {H : Hp} {Q : VK} {Z Y : Hp} {s : S} {Qf : R → S → Prop} (r : Rel K Z Y H σ s) (hl : v.length ≤ sizeLine) (ra : RpAll K Z v ds) (h : Qf (.d (.tuple ds)) s)
    (q : ∀ v H' Z' r s', Same Z Z' → RelX K Z' Y H' σ s' [v] [r] → Qf r s' → Q v H') : ∀ p, H p = none → Q (.ref p) (upd H p (.tup v)) := fun p hp => by
  have n : NewR K Z H _ _ (.ref p) (.d (.tuple ds)) := .tup r.zh hp hl ra
  exact q _ _ _ _ s n.hz (r.new n) h
theorem pf_tRg1 {p2 pos2 : Pos} (hc : X.calm = true) (hm : X.mg "tuple" = none) (hm2 : X.mg "range" = none) (ha : PF X L a fa) (hg : Gl X "tuple" := by rfl) (hg2 : Gl X "range" := by rfl) (hs : starEach [a] X.env = (false, eval a X.env) :: starEach [] X.env := by rfl)
    (na : starEach [.Call (.Name "range" p2) [a] [] pos2] X.env = (false, eval (.Call (.Name "range" p2) [a] [] pos2) X.env) :: starEach [] X.env := by rfl) : PF X L (.Call (.Name "tuple" p) [.Call (.Name "range" p2) [a] [] pos2] [] pos) (fRg1 mkT fa) :=
  PE_imp (pe_tupRg hc hg hm (prg_1 hg2 hm2 ha hs) na) fun σ H Q ⟨Z, Y, s, Xf, Qf, r, k, xo, h, q⟩ => by
  refine ⟨Z, Y, s, Xf, _, r, k, xo, h, fun v H1 Z1 r1 s1 hz rx h1 => ?_⟩
  split at h1
  · rename_i j
    exact ⟨j, rx.vi, h1.1, newT rx.rel0 (rg_len h1.1) rg_all (by rw [Int.sub_zero]; exact h1.2) fun v H' Z' r s' hz' => q v H' Z' r s' (hz.trans hz')⟩
  · exact h1.elim
end
end Hs
namespace Hs
open PySem PySem.Spec PyProof.Rows L2
/-- the order of tuples of ints -/
def lexL : List Int → List Int → Bool
  | [], [] => false
  | [], _ :: _ => true
  | _ :: _, [] => false
  | a :: as, b :: bs => if a = b then lexL as bs else decide (a < b)
theorem lexL_cons {a b : Int} {as bs : List Int} : lexL (a :: as) (b :: bs) = if a = b then lexL as bs else decide (a < b) := rfl
theorem lexL_asym : ∀ {as bs : List Int}, lexL as bs = true → lexL bs as = false
  | [], [], h => by cases h
  | [], _ :: _, _ => rfl
  | _ :: _, [], h => by cases h
  | a :: as, b :: bs, h => by
    rw [lexL_cons] at h ⊢
    by_cases e : a = b
    · rw [if_pos e] at h
      rw [if_pos e.symm]
      exact lexL_asym h
    · rw [if_neg e] at h
      rw [if_neg (Ne.symm e)]
      have := of_decide_eq_true h
      exact decide_eq_false (by omega)
theorem lexL_tr : ∀ {as bs cs : List Int}, lexL as bs = false → lexL bs cs = false → lexL as cs = false
  | [], [], _, _, h => h
  | [], _ :: _, _, h, _ => by cases h
  | _ :: _, [], [], _, _ => rfl
  | _ :: _, [], _ :: _, _, h => by cases h
  | _ :: _, _ :: _, [], _, _ => rfl
  | a :: as, b :: bs, c :: cs, h1, h2 => by
    rw [lexL_cons] at h1 h2 ⊢
    by_cases e1 : a = b
    · rw [if_pos e1] at h1
      subst e1
      by_cases e2 : a = c
      · rw [if_pos e2] at h2 ⊢
        exact lexL_tr h1 h2
      · rw [if_neg e2] at h2 ⊢
        exact h2
    · rw [if_neg e1] at h1
      have l1 := of_decide_eq_false h1
      by_cases e2 : b = c
      · subst e2
        rw [if_neg e1]
        exact h1
      · rw [if_neg e2] at h2
        have l2 := of_decide_eq_false h2
        rw [if_neg (by omega)]
        exact decide_eq_false (by omega)
theorem lexL_eq : ∀ {as bs : List Int}, lexL as bs = false → lexL bs as = false → as = bs
  | [], [], _, _ => rfl
  | [], _ :: _, h, _ => by cases h
  | _ :: _, [], _, h => by cases h
  | a :: as, b :: bs, h1, h2 => by
    rw [lexL_cons] at h1 h2
    by_cases e : a = b
    · rw [if_pos e] at h1
      rw [if_pos e.symm] at h2
      rw [e, lexL_eq h1 h2]
    · rw [if_neg e] at h1
      rw [if_neg (Ne.symm e)] at h2
      have := of_decide_eq_false h1
      have := of_decide_eq_false h2
      omega
theorem lexL_swo {α : Type} (k : α → List Int) : SrtO.Swo fun v u => lexL (k v) (k u) := ⟨fun x y h => lexL_asym h, fun x y z h1 h2 => lexL_tr h2 h1⟩
section
variable {prog : Program} {w : World} {A : Around} {E : Value → Shared → Prop} {s : Shared}
def IsTupI (h : Heap) (v : Value) (ns : List Int) : Prop := ∃ a o us n, v = .ref a ∧ h.get? a = some o ∧ o.cls = .type "tuple" ∧ o.data = .seq (List.toArray us) n ∧ IntsAre us ns
theorem IsTupI.keeps {h h' : Heap} {v : Value} {ns : List Int} (p : IsTupI h v ns) (k : ∀ b o, h.get? b = some o → o.cls = .type "tuple" → h'.get? b = some o) : IsTupI h' v ns := by
  obtain ⟨a, o, us, n, e, ho, hc, hd, hi⟩ := p
  exact ⟨a, o, us, n, e, k _ _ ho hc, hc, hd, hi⟩
theorem kat_tups {fin : Bool} : ∀ {xs ys : List Value} {ns ms : List Int} (i : Nat), IntsAre xs ns → IntsAre ys ms → fin = decide (ns.length < ms.length) →
    PySem.W.KatLex prog w A true fin (fun r s' => s' = s ∧ r = lexL ns ms) (xs.zip ys) i s
  | _, _, _, _, _, .nil, .nil, e => PySem.W.kat_nil ⟨rfl, e⟩
  | _, _, _, _, _, .nil, .cons _ _ _, e => PySem.W.kat_nil ⟨rfl, by rw [e]; exact decide_eq_true (by simp)⟩
  | _, _, _, _, _, .cons _ _ _, .nil, e => PySem.W.kat_nil ⟨rfl, by rw [e]; exact decide_eq_false (by simp)⟩
  | _, _, _, _, i, .cons x t hx, .cons y u hy, e => by
    refine PySem.W.kat_cons (SeqAt.EqAt.int_int x t y u prog w _ _ ?_)
    rw [lexL_cons]
    refine PySem.W.kat_go (fun e1 => ?_) (fun e1 => ?_)
    · have ex : x = y := by simpa using e1
      rw [if_pos ex]
      exact PySem.W.kat_yes (kat_tups (i + 1) hx hy (by rw [e]; simp))
    · have ex : ¬ x = y := by simpa using e1
      rw [if_neg ex]
      exact PySem.W.kat_no (TS.oneLt_ints _ ⟨rfl, rfl⟩)
theorem tup_cmp {vs : List Value} {k : Value → List Int} (hp : ∀ v ∈ vs, IsTupI s.heap v (k v)) : SrtO.Cmp prog w A s (tuples' true) (fun p => p.1 ∈ vs) (SrtO.lt2 fun v u => lexL (k v) (k u)) := by
  intro p q hm hm'
  obtain ⟨a, o, us, n, e, ho, hc, hd, hi⟩ := hp _ hm
  obtain ⟨a', o', us', n', e', ho', hc', hd', hi'⟩ := hp _ hm'
  show wpAny (model prog w) A (keyLt' (tuples' true) p.1 q.1) (fun r s' => s' = s ∧ r = lexL (k p.1) (k q.1)) (fun _ _ => False) s
  generalize k p.1 = ns at hi ⊢
  generalize k q.1 = ms at hi' ⊢
  rw [e, e']
  refine PySem.W.kat_lt ho hd ho' hd' ?_
  exact kat_tups 0 hi hi' (by rw [List.size_toArray, List.size_toArray, hi.length, hi'.length])
theorem firstsT {h : Heap} : ∀ {vs : List Value} {k : Value → List Int}, (∀ v ∈ vs, IsTupI h v (k v) ∧ k v ≠ []) → ∃ fs : List Value, PySem.W.KatTups h vs fs ∧ fs.length = vs.length ∧ ∀ f ∈ fs, ∃ x t, f = Value.int x t
  | [], _, _ => ⟨[], PySem.W.KatTups.nil, rfl, fun _ hm => by simp at hm⟩
  | v :: vs, k, hp => by
    obtain ⟨fs, h1, h2, h3⟩ := firstsT (vs := vs) fun v' hm => hp v' (List.mem_cons_of_mem _ hm)
    obtain ⟨⟨a, o, us, n, e, ho, hc, hd, hi⟩, hne⟩ := hp v (List.mem_cons_self ..)
    generalize k v = ns at hi hne
    subst e
    cases hi with
    | nil => exact (hne rfl).elim
    | cons x t hi =>
      refine ⟨.int x t :: fs, PySem.W.KatTups.cons ho hc hd rfl h1, by rw [List.length_cons, List.length_cons, h2], fun f hm => ?_⟩
      rcases List.mem_cons.mp hm with rfl | hm
      · exact ⟨x, t, rfl⟩
      · exact h3 f hm
theorem tups_sortableO {a : Addr} {vs : List Value} {k : Value → List Int} (h0 : 0 < vs.length) (hp : ∀ v ∈ vs, IsTupI s.heap v (k v) ∧ k v ≠ []) (ha : ∀ o, s.heap.get? a = some o → o.cls ≠ .type "tuple") : SrtO.SortableO prog w A s a vs fun v u => lexL (k v) (k u) := by
  intro h' keep
  have hp' : ∀ v ∈ vs, IsTupI h' v (k v) ∧ k v ≠ [] := fun v hm => ⟨(hp v hm).1.keeps fun b o e c => keep b o (fun z => by subst z; exact ha o e c) e, (hp v hm).2⟩
  obtain ⟨fs, h1, h2, h3⟩ := firstsT hp'
  refine ⟨tuples' true, fun Q E hq => ?_, tup_cmp fun v hv => (hp' v hv).1⟩
  refine PySem.W.kat_kind (T := .type "int") h1 (by omega) (fun f hm => ?_) (by rfl) ?_
  · obtain ⟨x, t, rfl⟩ := h3 f hm
    exact PySem.W.Looks.now
  · have e : (Value.type "int" != Value.type "tuple") = true := by first | decide +kernel | rfl | decide
    rw [e]
    exact hq
end
section
variable {X : Cx}
/-- items as tuples of ints -/
def tupI (ns : List Int) : D := .tuple (ns.map .int)
def tupOf : D → Option (List Int)
  | .tuple xs => intsOf xs
  | _ => none
def tupsOf : List D → Option (List (List Int))
  | [] => some []
  | x :: xs => match tupOf x, tupsOf xs with
    | some n, some ns => some (n :: ns)
    | _, _ => none
theorem tupOf_eq {d : D} {ns : List Int} (h : tupOf d = some ns) : d = tupI ns := by
  cases d with
  | tuple xs => rw [intsOf_eq (show intsOf xs = some ns from h)]; rfl
  | _ => cases h
theorem tupsOf_eq : ∀ {xs : List D} {nss : List (List Int)}, tupsOf xs = some nss → xs = nss.map tupI
  | [], nss, h => by cases h; rfl
  | x :: xs, nss, h => by
    have h : (match tupOf x, tupsOf xs with | some n, some ns => some (n :: ns) | _, _ => none) = some nss := h
    cases e : tupOf x with
    | none => rw [e] at h; cases h
    | some p =>
      cases e2 : tupsOf xs with
      | none => rw [e, e2] at h; cases h
      | some qs =>
        rw [e, e2] at h
        cases h
        rw [tupOf_eq e, tupsOf_eq e2]; rfl
section
variable {K : PySem.W.Frag} {Z : Hp}
theorem rp_tupI {v : V} {ns : List Int} (r : Rp K Z v (tupI ns)) : ∃ t, v = .ref t ∧ SqT K Z t (ns.map V.int) := by
  unfold tupI at r
  cases r with
  | tup h z a =>
    rw [a.ints] at h
    exact ⟨_, rfl, tupSq h⟩
open Classical in
noncomputable def keyT (K : PySem.W.Frag) (Z : Hp) (v : V) : List Int := if h : ∃ ns, Rp K Z v (tupI ns) then h.choose else []
theorem map_int_inj : ∀ {ns ms : List Int}, ns.map V.int = ms.map V.int → ns = ms
  | [], [], _ => rfl
  | [], _ :: _, h => by cases h
  | _ :: _, [], h => by cases h
  | n :: ns, m :: ms, h => by
    rw [List.map_cons, List.map_cons] at h
    injection h with h1 h2
    injection h1 with h1
    rw [h1, map_int_inj h2]
theorem rp_tupI_key {v : V} {ns : List Int} (one : ∀ (t : Addr) (xs ys : List V), SqT K Z t xs → SqT K Z t ys → xs = ys) (r : Rp K Z v (tupI ns)) : keyT K Z v = ns := by
  classical
  have h : ∃ p, Rp K Z v (tupI p) := ⟨ns, r⟩
  unfold keyT
  rw [dif_pos h]
  have hc := h.choose_spec
  generalize h.choose = p' at hc
  obtain ⟨t, rfl, h1⟩ := rp_tupI r
  obtain ⟨t', e, h2⟩ := rp_tupI hc
  cases e
  exact map_int_inj (one t _ _ h2 h1)
end
end
end Hs
namespace Hs
open PySem PySem.Spec PyProof.Rows L2
end Hs
namespace L2
open PySem PySem.Spec PyProof.Rows
end L2
namespace Hs
open PySem PySem.Spec PyProof.Rows L2
section
variable {K : PySem.W.Frag} {Z H : Hp} {v : V} {c : Str}
theorem RpV.exc (r : RpV K Z H v (.dict [(.none, .str c)])) (e : Same Z H) : ∃ a : Addr, v = .ref a ∧ H a = some (ExV (He.ga K c) a) := by
  rcases r with r | ⟨p, vs, xs', rfl, e2, h, z, a⟩ | ⟨p, kvs, rfl, e2, h⟩
  · generalize e0 : (PyData.dict [(.none, .str c)]) = d at r
    cases r with
    | lit h z =>
      unfold litD at e0
      injection e0 with e1
      injection e1 with e2 _
      injection e2 with _ e3
      cases e3
    | tf h c d z =>
      unfold tfD at e0
      injection e0 with e1
      injection e1 with e2 _
      injection e2 with _ e3
      cases e3
    | exc h =>
      unfold excD at e0
      injection e0 with e1
      injection e1 with e2 _
      injection e2 with _ e3
      injection e3 with e4
      subst e4
      exact ⟨_, rfl, e _ _ h⟩
    | dcK h a => cases e0; exact a.nolit.elim
    | dcT h a => cases e0
    | obj h1 h2 a => cases e0
    | _ => cases e0
  · cases e2
  · cases e2
    rcases h with ⟨ks, e1, r⟩ | ⟨ks, kvs', e0, e1, r⟩
    · exact r.nolit.elim
    · cases e0
end
end Hs
namespace Hs
open PySem PySem.Spec PyProof.Rows L2
end Hs
namespace Hs
open PySem PySem.Spec PyProof.Rows L2
def fEmD : FE := fun _ s Q => Q (.own (.dc [])) s
theorem st_emD {X : XF} {s : S} {Q : R → S → Prop} (h : Q (.own (.dc [])) s) : fEmD X s Q := h
end Hs
namespace Hs
open PySem PySem.Spec PyProof.Rows L2
end Hs
namespace Hs
open PySem PySem.Spec PyProof.Rows L2
def keyN : D → Option Key
  | .int i => some (.inl i)
  | .str x => some (.inr x)
  | _ => none
def keysN : List D → Option (List Key)
  | [] => some []
  | d :: r => match keyN d, keysN r with
    | some k, some ks => some (k :: ks)
    | _, _ => none
theorem keyN_keyD (k : Key) : keyN (keyD k) = some k := by cases k <;> rfl
theorem keysN_map : ∀ ks : List Key, keysN (ks.map keyD) = some ks
  | [] => rfl
  | k :: ks => by rw [List.map_cons, keysN, keyN_keyD, keysN_map ks]
theorem keyN_eq {d : D} {k : Key} (h : keyN d = some k) : d = keyD k := by
  cases d <;> simp only [keyN] at h <;> cases h <;> rfl
theorem keysN_eq : ∀ {ds : List D} {ks : List Key}, keysN ds = some ks → ds = ks.map keyD
  | [], ks, h => by cases h; rfl
  | d :: r, ks, h => by
    unfold keysN at h
    cases e : keyN d with
    | none => rw [e] at h; cases h
    | some k =>
      cases e2 : keysN r with
      | none => rw [e, e2] at h; cases h
      | some l =>
        rw [e, e2] at h
        cases h
        rw [keyN_eq e, keysN_eq e2]; rfl
def sameN (d : D) (k : Key) : Bool := decide (keyN d = some k)
def sameT (d : D) (k : List Key) : Bool := match d with
  | .tuple ds => decide (keysN ds = some k)
  | _ => false
theorem sameN_keyD (j k : Key) : sameN (keyD j) k = decide (j = k) := by
  unfold sameN
  rw [keyN_keyD]
  by_cases h : j = k
  · subst h; simp
  · rw [decide_eq_false h, decide_eq_false (fun e => h (Option.some.inj e))]
theorem sameT_keysD (j k : List Key) : sameT (keysD j) k = decide (j = k) := by
  unfold sameT keysD
  dsimp only
  rw [keysN_map]
  by_cases h : j = k
  · subst h; simp
  · rw [decide_eq_false h, decide_eq_false (fun e => h (Option.some.inj e))]
/-- what a dict holds -/
def dGet (kvs : List (D × D)) (k : D) (Q : Option D → Prop) : Prop := match kvs with
  | (.none, .none) :: r => match k with
    | .tuple ds => match keysN ds with
      | some ks => Q ((r.find? fun p => sameT p.1 ks).map (·.2))
      | none => False
    | _ => False
  | (.none, _) :: _ => False
  | kvs => match keyN k with
    | some k' => Q ((kvs.find? fun p => sameN p.1 k').map (·.2))
    | none => False
def putN (kvs : List (D × D)) (k : Key) (x : D) : List (D × D) :=
  if (kvs.any fun p => sameN p.1 k) = true then kvs.map (fun p => if sameN p.1 k = true then (p.1, x) else p) else kvs ++ [(keyD k, x)]
def putT (kvs : List (D × D)) (k : List Key) (x : D) : List (D × D) :=
  if (kvs.any fun p => sameT p.1 k) = true then kvs.map (fun p => if sameT p.1 k = true then (p.1, x) else p) else kvs ++ [(keysD k, x)]
def dPut (kvs : List (D × D)) (k x : D) (Q : List (D × D) → Prop) : Prop := match kvs with
  | (.none, .none) :: r => match k with
    | .tuple ds => match keysN ds with
      | some ks => r.length < sizeLine ∧ Q ((.none, .none) :: putT r ks x)
      | none => False
    | _ => False
  | (.none, _) :: _ => False
  | kvs => match keyN k with
    | some k' => kvs.length < sizeLine ∧ Q (putN kvs k' x)
    | none => False
section
variable {K : PySem.W.Frag} {Z H : Hp}
def OptR (K : PySem.W.Frag) (H : Hp) (v : Option V) (d : Option D) : Prop := match v, d with
  | none, none => True
  | some v, some d => Rp K H v d
  | _, _ => False
theorem RpK.get (k : Key) : ∀ {ks : List (Key × V)} {kvs : List (D × D)}, RpK K H ks kvs → OptR K H (valV ks k) ((kvs.find? fun p => sameN p.1 k).map (·.2))
  | _, _, .nil => True.intro
  | _, _, .cons (k := j) (ks := ks) h r => by
    rw [List.find?_cons]
    dsimp only
    rw [sameN_keyD]
    by_cases e : j = k
    · rw [decide_eq_true e, valV_pos (p := (j, _)) e]
      exact h
    · rw [decide_eq_false e, valV_neg (p := (j, _)) e]
      exact RpK.get k r
theorem RpT.get (k : List Key) : ∀ {ks : List (List Key × V)} {kvs : List (D × D)}, RpT K H ks kvs → OptR K H (valV ks k) ((kvs.find? fun p => sameT p.1 k).map (·.2))
  | _, _, .nil => True.intro
  | _, _, .cons (k := j) (ks := ks) h r => by
    rw [List.find?_cons]
    dsimp only
    rw [sameT_keysD]
    by_cases e : j = k
    · rw [decide_eq_true e, valV_pos (p := (j, _)) e]
      exact h
    · rw [decide_eq_false e, valV_neg (p := (j, _)) e]
      exact RpT.get k r
theorem RpK.any (k : Key) : ∀ {ks : List (Key × V)} {kvs : List (D × D)}, RpK K H ks kvs → (ks.any fun kv => decide (kv.1 = k)) = kvs.any fun p => sameN p.1 k
  | _, _, .nil => rfl
  | _, _, .cons (k := j) h r => by rw [List.any_cons, List.any_cons, RpK.any k r, sameN_keyD]
theorem RpT.any (k : List Key) : ∀ {ks : List (List Key × V)} {kvs : List (D × D)}, RpT K H ks kvs → (ks.any fun kv => decide (kv.1 = k)) = kvs.any fun p => sameT p.1 k
  | _, _, .nil => rfl
  | _, _, .cons (k := j) h r => by rw [List.any_cons, List.any_cons, RpT.any k r, sameT_keysD]
theorem RpK.repl (k : Key) {v : V} {x : D} (rv : Rp K H v x) : ∀ {ks : List (Key × V)} {kvs : List (D × D)}, RpK K H ks kvs → RpK K H (ks.map fun kv => if kv.1 = k then (kv.1, v) else kv) (kvs.map fun p => if sameN p.1 k = true then (p.1, x) else p)
  | _, _, .nil => .nil
  | _, _, .cons (k := j) h r => by
    rw [List.map_cons, List.map_cons]
    dsimp only
    rw [sameN_keyD]
    by_cases e : j = k
    · rw [if_pos e, if_pos (decide_eq_true e)]
      exact .cons rv (RpK.repl k rv r)
    · rw [if_neg e, if_neg (by simpa using e)]
      exact .cons h (RpK.repl k rv r)
theorem RpT.repl (k : List Key) {v : V} {x : D} (rv : Rp K H v x) : ∀ {ks : List (List Key × V)} {kvs : List (D × D)}, RpT K H ks kvs → RpT K H (ks.map fun kv => if kv.1 = k then (kv.1, v) else kv) (kvs.map fun p => if sameT p.1 k = true then (p.1, x) else p)
  | _, _, .nil => .nil
  | _, _, .cons (k := j) h r => by
    rw [List.map_cons, List.map_cons]
    dsimp only
    rw [sameT_keysD]
    by_cases e : j = k
    · rw [if_pos e, if_pos (decide_eq_true e)]
      exact .cons rv (RpT.repl k rv r)
    · rw [if_neg e, if_neg (by simpa using e)]
      exact .cons h (RpT.repl k rv r)
theorem RpK.snoc {k : Key} {v : V} {x : D} (rv : Rp K H v x) : ∀ {ks : List (Key × V)} {kvs : List (D × D)}, RpK K H ks kvs → RpK K H (ks ++ [(k, v)]) (kvs ++ [(keyD k, x)])
  | _, _, .nil => .cons rv .nil
  | _, _, .cons h r => .cons h (RpK.snoc rv r)
theorem RpT.snoc {k : List Key} {v : V} {x : D} (rv : Rp K H v x) : ∀ {ks : List (List Key × V)} {kvs : List (D × D)}, RpT K H ks kvs → RpT K H (ks ++ [(k, v)]) (kvs ++ [(keysD k, x)])
  | _, _, .nil => .cons rv .nil
  | _, _, .cons h r => .cons h (RpT.snoc rv r)
theorem RpK.put (k : Key) {v : V} {x : D} (rv : Rp K H v x) {ks : List (Key × V)} {kvs : List (D × D)} (r : RpK K H ks kvs) : RpK K H (putK ks k v) (putN kvs k x) := by
  unfold putK putN
  rw [r.any k]
  split
  · exact r.repl k rv
  · exact r.snoc rv
theorem RpT.put (k : List Key) {v : V} {x : D} (rv : Rp K H v x) {ks : List (List Key × V)} {kvs : List (D × D)} (r : RpT K H ks kvs) : RpT K H (putK ks k v) (putT kvs k x) := by
  unfold putK putT
  rw [r.any k]
  split
  · exact r.repl k rv
  · exact r.snoc rv
theorem RpK.length : ∀ {ks : List (Key × V)} {kvs : List (D × D)}, RpK K H ks kvs → ks.length = kvs.length
  | _, _, .nil => rfl
  | _, _, .cons _ r => congrArg (· + 1) (RpK.length r)
theorem RpT.length : ∀ {ks : List (List Key × V)} {kvs : List (D × D)}, RpT K H ks kvs → ks.length = kvs.length
  | _, _, .nil => rfl
  | _, _, .cons _ r => congrArg (· + 1) (RpT.length r)
theorem RpK.mark {ks : List (Key × V)} {x : D} {r : List (D × D)} (h : RpK K H ks ((.none, x) :: r)) : False := h.nolit
/-- a dict that is looked at -/
theorem RpV.dict {v : V} {kvs : List (D × D)} (r : RpV K Z H v (.dict kvs)) (e : Same Z H) : (∃ p ks, v = .ref p ∧ Rd H p (.dK ks) ∧ RpK K Z ks kvs) ∨ (∃ p ks kvs', v = .ref p ∧ kvs = (.none, .none) :: kvs' ∧ Rd H p (.dT ks) ∧ RpT K Z ks kvs') ∨ ∃ x r, kvs = (.none, x) :: r ∧ x ≠ .none := by
  rcases r with r | ⟨p, vs, xs', rfl, e2, h, z, a⟩ | ⟨p, kvs', rfl, e2, h⟩
  · generalize e0 : (PyData.dict kvs) = d at r
    cases r with
    | dcK h a => cases e0; exact .inl ⟨_, _, rfl, same_rd e h, a⟩
    | dcT h a => cases e0; exact .inr (.inl ⟨_, _, _, rfl, rfl, same_rd e h, a⟩)
    | lit h z => cases e0; exact .inr (.inr ⟨_, _, rfl, fun z => nomatch z⟩)
    | exc h => cases e0; exact .inr (.inr ⟨_, _, rfl, fun z => nomatch z⟩)
    | tf h c d z => cases e0; exact .inr (.inr ⟨_, _, rfl, fun z => nomatch z⟩)
    | obj h1 h2 a => cases e0; exact .inr (.inr ⟨_, _, rfl, fun z => nomatch z⟩)
    | _ => cases e0
  · cases e2
  · cases e2
    rcases h with ⟨ks, e1, r⟩ | ⟨ks, kvs', e0, e1, r⟩
    · exact .inl ⟨_, _, rfl, .inl e1, r⟩
    · exact .inr (.inl ⟨_, _, _, rfl, e0, .inl e1, r⟩)
theorem RpV.key {v : V} {k : Key} (r : RpV K Z H v (keyD k)) : v = kV k := by
  cases k with
  | inl i => exact RpV.int r
  | inr x => exact RpV.str r
theorem RpAll.keys : ∀ {vs : List V} {ks : List Key}, RpAll K Z vs (ks.map keyD) → vs = ks.map kV
  | _, [], .nil => rfl
  | _, k :: ks, .cons h a => by
    rw [RpAll.keys a, RpV.key (H := Z) (.inl h)]; rfl
theorem RpV.keys {v : V} {ks : List Key} (r : RpV K Z H v (.tuple (ks.map keyD))) (e : Same Z H) : ∃ b, v = .ref b ∧ H b = some (.tup (ks.map kV)) := by
  have r := fop_add.RpV.tupZ r
  cases r with
  | tup h z a =>
    rw [a.keys] at h
    exact ⟨_, rfl, e _ _ h⟩
/-- what a dict holds, looked up -/
theorem dGet_ok {x y : V} {kvs : List (D × D)} {k : D} {Q : Option D → Prop} (e : Same Z H) (hx : RpV K Z H x (.dict kvs)) (hy : RpV K Z H y k) (h : dGet kvs k Q) : ∃ a o d, x = .ref a ∧ DGet H a y o ∧ OptR K Z o d ∧ Q d := by
  unfold dGet at h
  rcases hx.dict e with ⟨p, ks, rfl, hp, r⟩ | ⟨p, ks, kvs', rfl, rfl, hp, r⟩ | ⟨x0, r, rfl, hxn⟩
  · split at h
    · exact r.mark.elim
    · exact r.mark.elim
    · split at h
      · rename_i k' ek
        rw [keyN_eq ek] at hy
        exact ⟨p, _, _, rfl, .inl ⟨ks, k', hp, hy.key, rfl⟩, r.get k', h⟩
      · exact h.elim
  · dsimp only at h
    split at h
    · split at h
      · rename_i ds ks' ek
        rw [keysN_eq ek] at hy
        obtain ⟨b, rfl, hb⟩ := hy.keys e
        exact ⟨p, _, _, rfl, .inr ⟨ks, ks', b, hp, rfl, hb, rfl⟩, r.get ks', h⟩
      · exact h.elim
    · exact h.elim
  · split at h
    · rename_i e1
      cases e1
      exact (hxn rfl).elim
    · exact h.elim
    · rename_i h1 h2
      exact (h2 _ _ rfl).elim
end
theorem OptR.isSome {K : PySem.W.Frag} {H : Hp} {o : Option V} {d : Option D} (r : OptR K H o d) : o.isSome = d.isSome := by
  cases o <;> cases d <;> first | rfl | exact r.elim
theorem _root_.L2.Room.u1 {k : Nat} {A : Around} (r : Room k A) : A.units + 1 < cLine := by have := r.un; omega
section
variable {X : Cx} {L : Lv} {e a b c : Expr} {es : List Expr} {fa fb fc fj fx : FE} {ft : FT} {fr : FA} {pos p : Pos}
/-- d[k], xs[k] -/
def ixD2 : V2 := fun d e Q => ixD d e Q ∨ ∃ kvs, d = .dict kvs ∧ dGet kvs e fun o => ∃ x, o = some x ∧ Q (.d x)
theorem fix_d2 (hu : X.A.units + 1 < cLine) : IxR X (rF2 X.K ixD2) := by
  intro value slice pins s σ H x y v u Q I rx ry ⟨Z, d, e, Qf, hz, hd, he, g, q⟩ hpl
  rcases g with g | ⟨kvs, rfl, g⟩
  · exact fix_d value slice pins s σ H x y v u Q I rx ry ⟨Z, d, e, Qf, hz, hd, he, g, q⟩ hpl
  · obtain ⟨a, o, d, rfl, dg, ro, z, rfl, g⟩ := dGet_ok hz hd he g
    cases o with
    | none => exact ro.elim
    | some w =>
      obtain rfl : v = Value.ref a := rx
      exact tail_any (dict_typeIs I dg) PySem.F.slot_dict_getitem.lookup (d_getItem hu I dg ry fun w' s' I' rw' => ⟨w, H, I', rw', q w H Z _ (.d hz ro) g⟩) hpl
/-- k in d, k in xs -/
def cInK : V2 := fun d e Q => cIn d e Q ∨ ∃ kvs, e = .dict kvs ∧ dGet kvs d fun o => Q (.d (.bool o.isSome))
def cNotInK : V2 := fun d e Q => cNotIn d e Q ∨ ∃ kvs, e = .dict kvs ∧ dGet kvs d fun o => Q (.d (.bool (!o.isSome)))
theorem fop_inK (hu : X.A.units + 65 < cLine) : OpR X (compareOp .In) (rF2 X.K cInK) := by
  intro pins s σ H x y v u Q I rx ry ⟨Z, d, e, Qf, hz, hd, he, g, q⟩
  rcases g with g | ⟨kvs, rfl, g⟩
  · exact fop_in hu pins s σ H x y v u Q I rx ry ⟨Z, d, e, Qf, hz, hd, he, g, q⟩
  · obtain ⟨a, o, d, rfl, dg, ro, g⟩ := dGet_ok hz he hd g
    obtain rfl : u = Value.ref a := ry
    exact d_in (by omega) I dg rx fun s' I' => ⟨.bl o.isSome, H, I', rfl, by rw [ro.isSome]; exact q _ H Z _ (.d hz (.bl _)) g⟩
theorem fop_notInK (hu : X.A.units + 65 < cLine) : OpR X (compareOp .NotIn) (rF2 X.K cNotInK) := by
  intro pins s σ H x y v u Q I rx ry ⟨Z, d, e, Qf, hz, hd, he, g, q⟩
  rcases g with g | ⟨kvs, rfl, g⟩
  · exact fop_notIn hu pins s σ H x y v u Q I rx ry ⟨Z, d, e, Qf, hz, hd, he, g, q⟩
  · obtain ⟨a, o, d, rfl, dg, ro, g⟩ := dGet_ok hz he hd g
    obtain rfl : u = Value.ref a := ry
    exact d_notIn (by omega) I dg rx fun s' I' => ⟨.bl (!o.isSome), H, I', rfl, by rw [ro.isSome]; exact q _ H Z _ (.d hz (.bl _)) g⟩
def onDc (i : Nat) (s : S) (k : List (D × D) → Prop) : Prop := match s.getD i .no with
  | .dc kvs => k kvs
  | _ => False
theorem onDc_ok {i : Nat} {s : S} {k : List (D × D) → Prop} (h : onDc i s k) : ∃ kvs, s.getD i .no = .dc kvs ∧ k kvs := by
  unfold onDc at h
  generalize s.getD i .no = w at h
  cases w with
  | dc kvs => exact ⟨kvs, rfl, h⟩
  | _ => exact h.elim
theorem Rel.slotDc {K : PySem.W.Frag} {Z Y H : Hp} {σ : St} {s : S} (r : Rel K Z Y H σ s) {i : Nat} {kvs : List (D × D)} (e : s.getD i .no = .dc kvs) : ∃ p, σ.getD i none = some (.ref p) ∧ DcAt K Z H p kvs := by
  obtain ⟨F, q⟩ := r.slot i
  rw [e] at q
  obtain ⟨p, h1, _, h3⟩ := q
  exact ⟨p, h1, h3⟩
theorem dPut_ok {K : PySem.W.Frag} {Z H : Hp} {p : Addr} {kvs : List (D × D)} {y v : V} {k x : D} {Q : List (D × D) → Prop} (e : Same Z H) (hd : DcAt K Z H p kvs) (hy : RpV K Z H y k) (rv : Rp K Z v x) (h : dPut kvs k x Q) :
    ∃ ob kvs', DPut H p y v (upd H p ob) ∧ DcAt K Z (upd H p ob) p kvs' ∧ Q kvs' := by
  unfold dPut at h
  rcases hd with ⟨ks, hp, r⟩ | ⟨ks, kvs', rfl, hp, r⟩
  · split at h
    · exact r.mark.elim
    · exact r.mark.elim
    · split at h
      · rename_i k' ek
        rw [keyN_eq ek] at hy
        refine ⟨_, _, .inl ⟨ks, k', hp, hy.key, by rw [r.length]; exact h.1, rfl⟩, .inl ⟨_, upd_same, r.put k' rv⟩, h.2⟩
      · exact h.elim
  · dsimp only at h
    split at h
    · split at h
      · rename_i ds ks' ek
        rw [keysN_eq ek] at hy
        obtain ⟨b, rfl, hb⟩ := hy.keys e
        exact ⟨_, _, .inr ⟨ks, ks', b, hp, rfl, hb, by rw [r.length]; exact h.1, rfl⟩, .inr ⟨_, _, rfl, upd_same, r.put ks' rv⟩, h.2⟩
      · exact h.elim
    · exact h.elim
/-- d[k] = x -/
def fSetD (i : Nat) (j a : FE) : FS := fun E s => a E.xx s fun r s1 => onDc i s1 fun _ => j E.xx s1 fun rj s2 => frzAll [r, rj] s2 fun ds s3 => match ds with
  | [d, k] => onDc i s3 fun kvs => dPut kvs k d fun kvs' => E.nx (s3.set i (.dc kvs'))
  | _ => False
variable {y : Str} {px : Pos}
theorem pfs_setD (i : Nat) {po : Pos} {j : Expr} (hu : X.A.units + 1 < cLine) (he : PF X L e fa) (ho : PE X (.Name y px) (tVar i)) (hj : PF X L j fj)
    (hs : swapsWith e (some (.Subscript (.Name y px) j po)) pos.line X.env = pure false := by rfl) : PFS X L (.Assign [.Subscript (.Name y px) j po] e pos) (fSetD i fj fa) :=
  PS_imp (ps_dput hu ho hj he hs) fun D σ H ⟨Z, Y, s, Ef, r, k, h, eo⟩ => by
  refine ⟨Z, Y, s, Ef.xx, _, r, k, eo.xx, h, fun v H1 Z1 r1 s1 hz rx h1 => ?_⟩
  obtain ⟨kvs0, e0, h1⟩ := onDc_ok h1
  obtain ⟨q, hv, _⟩ := rx.rel0.slotDc e0
  obtain ⟨Y', hy, rl, bk, fw⟩ := rx.frame
  refine ⟨.ref q, getD_some hv, Z1, Y', s1, Ef.xx, _, rl, k, (eo.xx.z hz).mono (Same.refl _) bk, h1, fun w H2 Z2 rj s2 hz2 rx2 h2 => ?_⟩
  have rx3 := fw Z2 H2 s2 [w] [rj] hz2 rx2
  obtain ⟨Z3, ds, s3, hz3, rx4, h3⟩ := frzAll_ok (us := []) (ds := []) rx3 rfl h2
  have ra := rx4.rps
  split at h3
  · obtain ⟨kvs, e2, h4⟩ := onDc_ok h3
    obtain ⟨q', hv', hd⟩ := rx4.rel0.slotDc e2
    rw [hv] at hv'
    cases hv'
    cases ra with
    | cons rd ra =>
      cases ra with
      | cons rk _ =>
        obtain ⟨ob, kvs', dp, dc, h5⟩ := dPut_ok rx4.rel0.zh hd (.inl rk) rd h4
        exact ⟨q, _, rfl, dp, eo.nx σ _ Z3 _ ((hz.trans hz2).trans hz3) k (rx4.rel0.writeDc e2 hv dc) h5⟩
  · exact h3.elim
/-- d.get(k, x) -/
def fDGet2 (i : Nat) (j x : FE) : FE := fun X s Q => onDc i s fun _ => j X s fun rj s1 => x X s1 fun rx s2 => frzAll [rj, rx] s2 fun ds s3 => match ds with
  | [k, d] => onDc i s3 fun kvs => dGet kvs k fun o => Q (.d (o.getD d)) s3
  | _ => False
theorem NewR.dc {K : PySem.W.Frag} {Z H : Hp} {p : Addr} {o : HO} {kvs : List (D × D)} (e : Same Z H) (hp : H p = none) (h : DcAt K Z (upd H p o) p kvs) : NewR K Z H Z (upd H p o) (.ref p) (.own (.dc kvs)) :=
  ⟨same_upd hp, Same.refl _, e.trans (same_upd hp), fun _ _ => .inl rfl, [p], ⟨p, rfl, rfl, h⟩, by simp, fun a ha => by
    obtain rfl : a = p := by simpa using ha
    exact ⟨hp, e.free hp⟩⟩
def downD (hi : Int) (n : Nat) : List D := (List.range n).map fun (k : Nat) => PyData.int (hi - (k : Int))
def iRange3 (a : FA) : FI := fun X s Q => a X s fun rs s2 => match rs with
  | [.d (.int i), .d (.int j), .d (.int c)] => c = -1 ∧ lim62 i ∧ lim62 j ∧ Q (downD i (i - j).toNat) s2
  | _ => False
def fEmT : FE := fun _ s Q => Q (.own (.dc [(.none, .none)])) s
theorem pf_emT : PF X L (.Dict [] [] pos) fEmT := PE_imp pe_dnewT fun σ H Q ⟨Z, Y, s, Xf, Qf, r, k, xo, h, q⟩ p hp =>
  q _ _ Z (.own (.dc [(.none, .none)])) s (Same.refl _) (.own r.len (r.newDc hp (.inr ⟨[], [], rfl, upd_same, .nil⟩))) h
end
end Hs
namespace Hs
open PySem PySem.Spec PyProof.Rows L2
section
variable {K : PySem.W.Frag} {Z Z' Y Y' H H' : Hp} {σ σ' : St} {s s' : S}
theorem DcAt.notup {p : Addr} {kvs : List (D × D)} (h : DcAt K Z H p kvs) (vs : List V) : H p ≠ some (.tup vs) := by
  rcases h with ⟨ks, e1, r⟩ | ⟨ks, kvs', e0, e1, r⟩ <;> (rw [e1]; exact fun z => nomatch z)
theorem PartAt.notup {v : V} {w : PV} {F : List Addr} (h : PartAt K Z H v w F) (us : List V) : ∀ a ∈ F, H a ≠ some (.tup us) := fun a ha => h.nt a ha us
theorem TpAt.notup {vs : List V} {ws : List PV} {F : List Addr} (h : TpAt K Z H vs ws F) (us : List V) : ∀ a ∈ F, H a ≠ some (.tup us) := by
  induction h with
  | nil => intro a ha; cases ha
  | cons h r ih =>
    intro a ha
    rcases List.mem_append.mp ha with ha | ha
    · exact h.notup us a ha
    · exact ih a ha
theorem SlotAt.notup {v : Option V} {sv : SV} {F : List Addr} (h : SlotAt K Z H v sv F) (us : List V) : ∀ a ∈ F, H a ≠ some (.tup us) := by
  have LLt : ∀ {qs : List Addr} {xss : List (List D)}, LL K Z H qs xss → ∀ a ∈ qs, H a ≠ some (.tup us) := by
    intro qs xss r
    induction r with
    | nil => intro a ha; cases ha
    | cons h z a r ih =>
      intro b hb
      rcases List.mem_cons.mp hb with rfl | hb
      · rw [h]; exact fun z => nomatch z
      · exact ih b hb
  intro a ha
  cases sv with
  | no => rw [show F = [] from h] at ha; cases ha
  | d x => rw [h.1] at ha; cases ha
  | l xs =>
    obtain ⟨p, vs, h1, h2, h3, h4, h5⟩ := h
    rw [h2] at ha
    obtain rfl : a = p := by simpa using ha
    rw [h3]; exact fun z => nomatch z
  | ll xss =>
    obtain ⟨p, qs, h1, h2, h3, h4, h5⟩ := h
    rw [h2] at ha
    rcases List.mem_cons.mp ha with rfl | ha
    · rw [h3]; exact fun z => nomatch z
    · exact LLt h5 a ha
  | dc kvs =>
    obtain ⟨p, h1, h2, h3⟩ := h
    rw [h2] at ha
    obtain rfl : a = p := by simpa using ha
    exact h3.notup us
  | ob c fs =>
    obtain ⟨p, dx, vs, G, h1, h2, h3, h4, h5⟩ := h
    rw [h2] at ha
    rcases List.mem_cons.mp ha with rfl | ha
    · rw [h3]; exact fun z => nomatch z
    · rcases List.mem_cons.mp ha with rfl | ha
      · rw [h4]; exact fun z => nomatch z
      · exact h5.notup us a ha
  | tp ws =>
    obtain ⟨p, vs, h1, h3, h4, h5⟩ := h
    exact h5.notup us a ha
  | lo ws =>
    obtain ⟨p, vs, G, h1, h2, h3, h4, h5⟩ := h
    rw [h2] at ha
    rcases List.mem_cons.mp ha with rfl | ha
    · rw [h3]; exact fun z => nomatch z
    · exact h5.notup us a ha
def frz1 (w : SV) : SV := match asD w with
  | some x => .d x
  | none => .no
def frzS (s : S) : S := s.map frz1
/-- values without lists and dicts -/
def flatD : D → Bool
  | .none | .bool _ | .int _ | .str _ => true
  | .tuple ds => flatL ds
  | _ => false
where flatL : List D → Bool
  | [] => true
  | d :: ds => flatD d && flatL ds
/-- what comes and holds nothing of what was looked at -/
def flatR (r : R) (k : Prop) : Prop := match r with
  | .d x => flatD x = true ∧ k
  | .own (.l xs) => flatD.flatL xs = true ∧ k
  | _ => False
/-- an expression that only looks at what the slots hold -/
def fBor (e : FE) : FE := fun _ s Q => e (fun _ _ => False) (frzS s) fun r _ => flatR r (Q r s)
def fBorT (t : FT) : FT := fun _ s Q => t (fun _ _ => False) (frzS s) fun b _ => Q b s
/-- behind it -/
theorem Rel.free (r : Rel K Z Y H σ s) {F : Nat → List Addr} {Z1 Z2 : Hp} (o : OwnF K Z Y H σ s F) (hz1 : Same Z Z1) (h1 : ∀ i, ∀ a ∈ F i, Z1 a = H a) (hz2 : Same Z1 Z2) (zh : Same Z2 H') (yh : Same Y H') (zy : ∀ a, Z2 a ≠ none → Y a = none) :
    ∃ Z3, Same Z Z3 ∧ Same Z3 Z2 ∧ (∀ a vs, Z2 a = some (.tup vs) → Z3 a = some (.tup vs)) ∧ OwnF K Z3 Y H' σ s F ∧ (∀ i, ∀ a ∈ F i, Z2 a ≠ none) ∧ (∀ i, ∀ a ∈ F i, Z3 a = none) ∧ Rel K Z3 Y H' σ s := by
  classical
  let Z3 : Hp := fun a => if ∃ i, a ∈ F i then none else Z2 a
  have s3 : Same Z3 Z2 := fun a q e => by
    have e : (if ∃ i, a ∈ F i then none else Z2 a) = some q := e
    split at e
    · cases e
    · exact e
  have in2 : ∀ i, ∀ a ∈ F i, ∀ ob, H a = some ob → Z2 a = some ob := fun i a ha ob e => hz2 a ob ((h1 i a ha).trans e)
  have s03 : Same Z Z3 := fun a q e => by
    show (if _ then _ else _) = _
    rw [if_neg (fun ⟨i, h⟩ => by rw [(o.fr i a h).1] at e; cases e)]
    exact hz2 a q (hz1 a q e)
  have n3 : ∀ i, ∀ a ∈ F i, Z3 a = none := fun i a ha => if_pos ⟨i, ha⟩
  have oo : OwnF K Z3 Y H' σ s F := ⟨fun i => (o.at_ i).mono s03 fun a ha ob e => zh a ob (in2 i a ha ob e), o.nd, o.dj, fun i a ha => ⟨n3 i a ha, (o.fr i a ha).2⟩⟩
  refine ⟨Z3, s03, s3, fun a vs e => ?_, oo, fun i a ha => ?_, n3, s3.trans zh, yh, fun a ha => ?_, r.yt, r.len, F, oo⟩
  · show (if _ then _ else _) = _
    rw [if_neg]
    · exact e
    · rintro ⟨i, hi⟩
      cases eh : H a with
      | none => exact (o.at_ i).there a hi eh
      | some ob =>
        have := in2 i a hi ob eh
        rw [e] at this
        cases this
        exact (o.at_ i).notup vs a hi eh
  · cases eh : H a with
    | none => exact ((o.at_ i).there a ha eh).elim
    | some ob => rw [in2 i a ha ob eh]; exact fun z => nomatch z
  · cases e : Z3 a with
    | none => exact (ha e).elim
    | some q => exact zy a (by rw [s3 a q e]; exact fun z => nomatch z)
end
section
variable {X : Cx} {L : Lv} {e a b c : Expr} {es : List Expr} {fa fb fc fj fx : FE} {ft : FT} {fr : FA} {pos p : Pos}
def fDisp1 (k v : FE) : FE := fun X s Q => k X s fun rk s1 => v X s1 fun rv s2 => frzAll [rk, rv] s2 fun ds s3 => match ds with
  | [kd, d] => match keyN kd with
    | some k' => Q (.own (.dc [(keyD k', d)])) s3
    | none => False
  | _ => False
end
def toPs : List SV → (List PV → Prop) → Prop
  | [], k => k []
  | .d x :: r, k => toPs r fun ws => k (.d x :: ws)
  | .l xs :: r, k => toPs r fun ws => k (.l xs :: ws)
  | .dc kvs :: r, k => toPs r fun ws => k (.dc kvs :: ws)
  | .ob c fs :: r, k => toPs r fun ws => k (.o c fs :: ws)
  | _ :: _, _ => False
def fTupO (a : FA) : FE := fun X s Q => a X s fun rs s1 => bindA (List.replicate rs.length true) rs s1 fun svs s2 => toPs svs fun ws => Q (.own (.tp ws)) s2
section
variable {X : Cx} {L : Lv} {e a b c : Expr} {es : List Expr} {fa fb fc fj fx : FE} {ft : FT} {fr : FA} {pos p : Pos}
def onP (i k : Nat) (s : S) (kk : List PV → List D → Prop) : Prop := match s.getD i .no with
  | .tp ws => match ws[k]? with
    | some (.l xs) => kk ws xs
    | _ => False
  | _ => False
/-- t[k].m(..) -/
def fLmP (i k : Nat) (g : LM) (a : FA) : FE := fun X s Q => onP i k s fun _ _ => a X s fun rs s1 => frzAll rs s1 fun ds s2 => onP i k s2 fun ws xs => g xs ds fun d xs' => Q (.d d) (s2.set i (.tp (ws.set k (.l xs'))))
variable {nm : Str} {apos cpos : Pos} {y : Str} {px p1 p2 : Pos} {j : Nat} {id : String}
end
end Hs
namespace Hs
open PySem PySem.Spec PyProof.Rows L2
section
variable {prog : Program} {w : World} {A : Around} {E : Value → Shared → Prop} {s : Shared} {T : String} {r d : Addr} {n : Nat} {P : Nat → Value → Prop} {OK : Heap → Prop}
theorem collect_kdl {Q : List Value → Shared → Prop} (K : PySem.W.KdlSrc prog w T r d n P OK) (hh : A.handled = none) (hok : OK s.heap) (hn : n ≤ sizeLine)
    (hQ : ∀ (h' : Heap) (tk : Nat) (acc : Array Value), (∀ b o, s.heap.get? b = some o → h'.get? b = some o) → s.heap.objs.size < h'.objs.size → ItemsOf P acc n → Q acc.toList { s with heap := h', toks := tk }) :
    wpAny (model prog w) A (collect (.ref r)) Q E s := by
  unfold collect
  refine wpAny_bind (wpAny_runValue (codeAny_builtin F.entry_proto_collect ?_))
  rw [Around.under_plainId F.plain_proto_collect _]
  show wpAny _ A.in1 (newList [] >>= fun l => again (.builtin "list.__iadd__" ⟨[l, .ref r], []⟩)) _ _ s
  refine wpAny_bind (wpAny_newObj_type ?_)
  refine wpAny_pure ⟨plainId_quiet F.plain_list_iadd _, codeAny_builtin F.entry_list_iadd ?_⟩
  rw [Around.under_plainId F.plain_list_iadd _]
  show wpAny _ A.in1 (Builtin.List.listExtendWith (.ref s.heap.objs.size) (.ref r) (.ref s.heap.objs.size)) _ _ _
  have hS : (s.heap.push { cls := .type "list", data := .seq ([] : List Value).toArray }).get? s.heap.objs.size = some { cls := .type "list", data := .seq #[] 0 } := Heap.get?_push_size _ rfl
  have hlt := K.there _ hok
  refine wpAny_mono (PySem.W.kdl_extend (A := A) (R := fun rr s' => rr = .ok (.ret (.ref s.heap.objs.size)) ∧ ∃ (h' : Heap) (tk : Nat) (acc : Array Value) (c' : Nat), s' = { s with heap := h', toks := tk } ∧
      (∀ b o, s.heap.get? b = some o → h'.get? b = some o) ∧ h'.get? s.heap.objs.size = some { cls := .type "list", dict := none, data := .seq acc c', slots := #[] } ∧ ItemsOf P acc n)
    (s := { s with heap := s.heap.push { cls := .type "list", data := .seq ([] : List Value).toArray } }) K hh (K.keep _ _ hok fun b _ o e => Heap.get?_push_of_some _ e) _ (Nat.ne_of_gt hlt.1) (Nat.ne_of_gt hlt.2) _ 0 hS
    (fun h' tk acc c' hk e hi => ⟨rfl, h', tk, acc, c', rfl, fun b o q => hk b o (Nat.ne_of_lt (Heap.lt_size q)) (Heap.get?_push_of_some _ q), e, hi⟩) hn) (fun fin s' h => ?_) (fun e s' h => ?_)
  · cases fin with
    | done f =>
      obtain ⟨e, h', tk, acc, c', rfl, hk, hS', hi⟩ := h
      cases e
      show wpAny _ A (load s.heap.objs.size >>= _) _ _ _
      exact wpAny_bind (wpAny_load hS' (wpAny_pure (hQ h' tk acc hk (Heap.lt_size hS') hi)))
    | again c' =>
      refine ⟨h.1, codeAny_mono h.2 fun rr s'' hr' => ?_⟩
      obtain ⟨rfl, h', tk, acc, c', rfl, hk, hS', hi⟩ := hr'
      show wpAny _ A (load s.heap.objs.size >>= _) _ _ _
      exact wpAny_bind (wpAny_load hS' (wpAny_pure (hQ h' tk acc hk (Heap.lt_size hS') hi)))
  · exact absurd h.1 (by simp)
open SrtO in
theorem sorted_ordK {vs : List Value} {ltv : Value → Value → Bool} {Q : Value → Shared → Prop} (K : PySem.W.KdlSrc prog w T r d n P OK) (hh : A.handled = none) (hok : OK s.heap) (hn : n ≤ sizeLine) (hz : vs.length ≤ sizeLine) (O : Swo ltv)
    (hP : ∀ acc : Array Value, ItemsOf P acc n → acc.toList = vs)
    (hS : 2 ≤ vs.length → ∀ (h₁ : Heap) (tk : Nat) (a : Addr), h₁.get? a = some (seqObj "list" vs.toArray 0) → (∀ b o, s.heap.get? b = some o → b ≠ a ∧ h₁.get? b = some o) → SortableO prog w A.in1.in1 { s with heap := h₁, toks := tk } a vs ltv)
    (h : ∀ (h' : Heap) (tk : Nat) (e : Addr) (out : List Value) (c : Nat), Srtd ltv out → Stb ltv out vs → (∀ b o, s.heap.get? b = some o → h'.get? b = some o) → s.heap.objs.size ≤ e → h'.get? e = some (seqObj "list" out.toArray c) → Q (.ref e) { s with heap := h', toks := tk }) :
    wpAny (model prog w) A (call (.builtin "sorted") [.ref r]) Q E s := by
  refine Calls.call_function_entry kind_sorted plain_sorted entry_sorted (args_sorted1 _) ?_
  unfold Builtin.«sorted»
  refine wpAny_bind (m := checkCount "sorted" 1 1 _) (wpAny_pure ?_)
  refine wpAny_bind (collect_kdl (A := A.in1) K hh hok hn fun h1 tk acc kp hlt hi => ?_)
  rw [hP acc hi]
  refine wpAny_bind (wpAny_newList ?_ hz)
  have hoL : (h1.push (seqObj "list" vs.toArray 0)).get? h1.objs.size = some (seqObj "list" vs.toArray 0) := Heap.get?_push_size _ rfl
  have keep : ∀ b o, s.heap.get? b = some o → b ≠ h1.objs.size ∧ (h1.push (seqObj "list" vs.toArray 0)).get? b = some o := fun b o q =>
    ⟨Nat.ne_of_lt (Nat.lt_trans (Heap.lt_size q) hlt), Heap.get?_push_of_some _ (kp b o q)⟩
  refine wpAny_bind (wpAny_holding (wpAny_call_entry slot_list_sort ⟨_, hoL, rfl⟩ entry_list_sort (list_sort_ord O hoL hz (fun h2 => hS h2 _ tk _ hoL keep) fun out hs hb => ⟨_, rfl, ?_⟩) (args_list_sort _)))
  obtain ⟨c, hc⟩ := sortedHeap_at (vs := vs) (out := out.toArray) hoL
  refine wpAny_pure ⟨_, rfl, h _ tk _ out c hs hb (fun b u e => ?_) (Nat.le_of_lt hlt) hc⟩
  have q := kp b u e
  have hlt := Heap.lt_size q
  show (sortedHeap (h1.push (seqObj "list" vs.toArray 0)) h1.objs.size vs out.toArray).get? b = some u
  rw [sortedHeap_old (Nat.ne_of_lt hlt) (by rw [size_push']; exact Nat.lt_succ_of_lt hlt)]
  exact Heap.get?_push_of_some _ q
end
theorem lexL_same : ∀ a b : List Int, lexL a b = HT.lexLt a b
  | [], [] => rfl
  | [], _ :: _ => rfl
  | _ :: _, [] => rfl
  | x :: a, y :: b => by
    rw [lexL_cons, HT.lexLt_cons, lexL_same a b]
section
variable {prog : Program} {w : World} {A : Around} {E : Value → Shared → Prop} {s : Shared}
theorem IsTupI.isTup {h : Heap} {v : Value} {ns : List Int} (p : IsTupI h v ns) : ∃ a its, v = .ref a ∧ IsTup h a its ∧ IntsAre its.toList ns := by
  obtain ⟨a, o, us, n, e, ho, hc, hd, hi⟩ := p
  exact ⟨a, us.toArray, e, ⟨o, ho, hc, n, hd⟩, by simpa using hi⟩
/-- one tuple of ints against another -/
theorem oneLt_tup (f : Bool) {u v : Value} {ns ms : List Int} (hu : A.units < cLine) (p : IsTupI s.heap u ns) (q : IsTupI s.heap v ms) : wpAny (model prog w) A (oneLt' f u v) (fun r s' => s' = s ∧ r = lexL ns ms) E s := by
  obtain ⟨a, its, rfl, ha, hi⟩ := p.isTup
  obtain ⟨b, its2, rfl, hb, hj⟩ := q.isTup
  rw [lexL_same]
  cases f with
  | false => exact PySem.W.kat_one _ _ (HT.lt_tupInts ha hb hi hj hu ⟨rfl, rfl⟩)
  | true =>
    rw [oneLt'_eq]
    simp only [if_true]
    refine wpAny_bind (wpAny_cRoomFor hu ?_)
    obtain ⟨⟨cls, dd, data, sl⟩, ho, hc, n, hd⟩ := id ha
    obtain ⟨⟨cls2, dd2, data2, sl2⟩, ho2, hc2, n2, hd2⟩ := id hb
    simp only at hc hd hc2 hd2
    subst hc hd hc2 hd2
    refine wpAny_bind (wpAny_callSpecialIfBound?_slot ⟨_, ho, rfl⟩ PySem.F.slot_tuple_lt (call_meets PySem.F.slot_tuple_lt ⟨_, ho, rfl⟩ PySem.F.entry_tuple_lt (PySem.F.args_tuple_lt_2 _ _) (HT.tuple_lt_ints a b its its2 n n2 dd dd2 sl sl2 ns ms hi hj) ⟨ho, ho2, ?_⟩))
    exact wpAny_truthy_bool (show _ from ⟨rfl, rfl⟩)
theorem tup_cmpG {kind : SortKind} (hk : kind = general' ∨ kind = oneType') (hu : A.units < cLine) {vs : List Value} {k : Value → List Int} (hp : ∀ v ∈ vs, IsTupI s.heap v (k v)) : SrtO.Cmp prog w A s kind (fun p => p.1 ∈ vs) (SrtO.lt2 fun v u => lexL (k v) (k u)) := by
  intro p q hm hm'
  rcases hk with rfl | rfl
  · exact oneLt_tup false hu (hp _ hm) (hp _ hm')
  · exact oneLt_tup true hu (hp _ hm) (hp _ hm')
theorem firsts_any : ∀ {vs : List Value} {k : Value → List Int} {Q : List (Option Value) → Shared → Prop}, (∀ v ∈ vs, IsTupI s.heap v (k v)) → (∀ fs : List (Option Value), fs.length = vs.length → (∀ (i : Nat) v, vs[i]? = some v → ∃ f, fs[i]? = some f ∧ (f.isSome = true ↔ k v ≠ [])) → Q fs s) → wpAny (model prog w) A (vs.mapM firstOfTuple') Q E s
  | [], _, _, _, h => by rw [List.mapM_nil]; exact wpAny_pure (h [] rfl fun i v e => by simp at e)
  | v :: vs, k, Q, hp, h => by
    obtain ⟨a, o, us, n, rfl, ho, hc, hd, hi⟩ := hp v List.mem_cons_self
    rw [List.mapM_cons]
    refine wpAny_bind ?_
    rw [PySem.W.kas_first_eq]
    refine wpAny_bind (PySem.W.Looks.here (show PySem.W.Looks _ s.heap (typeOf (.ref a)) o.cls from (PySem.W.Looks.ld ho).andThen .now) ?_)
    rw [hc, if_neg (by first | decide | simp)]
    refine wpAny_bind (listItems_at ho hd (wpAny_pure ?_))
    refine wpAny_bind (firsts_any (k := k) (fun v hv => hp v (List.mem_cons_of_mem _ hv)) fun fs hl hf => wpAny_pure (h _ (by rw [List.length_cons, List.length_cons, hl]) fun i v e => ?_))
    cases i with
    | zero =>
      simp only [List.getElem?_cons_zero, Option.some.injEq] at e
      subst e
      refine ⟨_, rfl, ?_⟩
      generalize k (.ref a) = ns at hi
      cases hi with
      | nil => simp
      | cons x t r => simp
    | succ i =>
      rw [List.getElem?_cons_succ] at e
      exact hf i v e
theorem tups_sortableG {a : Addr} {vs : List Value} {k : Value → List Int} (hu : A.units < cLine) (h0 : 0 < vs.length) (hp : ∀ v ∈ vs, IsTupI s.heap v (k v)) (ha : ∀ o, s.heap.get? a = some o → o.cls ≠ .type "tuple") : SrtO.SortableO prog w A s a vs fun v u => lexL (k v) (k u) := by
  by_cases hne : ∀ v ∈ vs, k v ≠ []
  · exact tups_sortableO h0 (fun v hv => ⟨hp v hv, hne v hv⟩) ha
  intro h' keep
  have hp' : ∀ v ∈ vs, IsTupI h' v (k v) := fun v hm => (hp v hm).keeps fun b o e c => keep b o (fun z => by subst z; exact ha o e c) e
  have hsome : ∃ v ∈ vs, k v = [] := Classical.byContradiction fun hn => hne fun v hv e => hn ⟨v, hv, e⟩
  obtain ⟨v0, hv0, e0⟩ := hsome
  obtain ⟨v1, vr, rfl⟩ : ∃ v1 vr, vs = v1 :: vr := by
    cases vs with
    | nil => exact absurd h0 (by decide)
    | cons v1 vr => exact ⟨v1, vr, rfl⟩
  refine ⟨if k v1 ≠ [] then general' else oneType', fun Q E hq => ?_, tup_cmpG (by split <;> simp) hu fun v hv => hp' v hv⟩
  rw [PyProof.Rows.kat_kind_eq, List.mapM_toArray, map_eq_pure_bind]
  refine wpAny_bind (wpAny_bind (firsts_any (k := k) (fun v hv => hp' v hv) fun fs hl hf => wpAny_pure ?_))
  have hall : (fs.toArray.all fun x => x.isSome) = false := by
    rw [← Bool.not_eq_true, List.all_toArray, List.all_eq_true]
    intro hA
    obtain ⟨i, hi, ei⟩ := List.mem_iff_getElem.mp hv0
    obtain ⟨f, hf1, hf2⟩ := hf i v0 (by rw [List.getElem?_eq_getElem hi, ei])
    exact hf2.mp (hA f (List.mem_of_getElem? hf1)) e0
  rw [if_neg (by rw [hall]; simp)]
  obtain ⟨f, hf1, hf2⟩ := hf 0 v1 rfl
  have hf1' : fs.toArray[0]? = some f := by simpa using hf1
  rw [hf1']
  by_cases c : k v1 ≠ []
  · rw [if_pos c] at hq
    rw [if_pos (show (Option.bind (some f) id).isSome = true from hf2.mpr c)]
    exact wpAny_pure hq
  · rw [if_neg c] at hq
    rw [if_neg (show ¬ (Option.bind (some f) id).isSome = true from fun e => c (hf2.mp e))]
    rw [oneTypeOnly'_eq, List.mapM_toArray, map_eq_pure_bind]
    refine wpAny_bind (wpAny_bind (wpAny_bind (PySem.W.kas_mapM (r := Value.type "tuple") _ (fun v hv Q' hq => ?_) (wpAny_pure ?_))))
    · obtain ⟨a, o, us, n, rfl, ho, hc, hd, hi⟩ := hp' v hv
      refine PySem.W.Looks.here (show PySem.W.Looks _ h' (typeOf (.ref a)) o.cls from (PySem.W.Looks.ld ho).andThen .now) ?_
      rw [hc]
      exact hq
    · have hall2 : ((List.map (fun _ => Value.type "tuple") (v1 :: vr)).toArray.all fun x => x == Value.type "tuple") = true := by
        simp only [List.all_toArray, List.all_map, List.all_eq_true]
        intro _ _
        first | rfl | decide
      have h0 : (List.map (fun _ => Value.type "tuple") (v1 :: vr)).toArray[0]? = some (Value.type "tuple") := by simp
      rw [h0]
      simp only [hall2, if_true]
      exact wpAny_pure (wpAny_pure hq)
end
section
variable {K : PySem.W.Frag} {X : Cx} {L : Lv}
/-- the keys, sorted; the refs are those of the keys' own tuples -/
def rSortD (K : PySem.W.Frag) : List V → Hp → VK → Prop := fun vs H Q => ∃ (d : Addr) (kvs : List (List Key × V)) (nss : List (List Int)), vs = [V.ref d] ∧ Rd H d (.dT kvs) ∧ kvs.map (·.1) = nss.map (·.map Sum.inl) ∧
  ∀ (p : Addr) (qs : List (List Int × Addr)), H p = none → (qs.map (·.1)).Perm nss → (qs.map (·.1)).Pairwise (fun a b => lexL b a = false) → (∀ q ∈ qs, H q.2 = some (.tup (q.1.map V.int)) ∧ q.1.length ≤ sizeLine) → qs.length ≤ sizeLine →
    Q (.ref p) (upd H p (.lst (qs.map fun q => V.ref q.2)))
theorem kt_pairs {H : Hp} : ∀ {kvs : List (List Key × V)} {ks : List (List Key × Addr × Value)} {nss : List (List Int)}, KT H kvs ks → kvs.map (·.1) = nss.map (·.map Sum.inl) →
    ∃ ps : List (List Int × Addr), ps.map (·.1) = nss ∧ ps.map (·.2) = ks.map (·.2.1) ∧ ∀ p ∈ ps, H p.2 = some (.tup (p.1.map V.int))
  | [], _, [], .nil, _ => ⟨[], rfl, rfl, fun p hp => (nomatch hp)⟩
  | [], _, _ :: _, .nil, h => by cases h
  | kv :: kvs, _, [], .cons _ _, h => by cases h
  | kv :: kvs, k :: ks, ns :: nss, .cons h1 h2, h => by
    rw [List.map_cons, List.map_cons] at h
    injection h with e1 e2
    obtain ⟨ps, p1, p2, p3⟩ := kt_pairs h2 e2
    refine ⟨(ns, k.2.1) :: ps, by rw [List.map_cons, p1], by rw [List.map_cons, List.map_cons, p2], fun p hp => ?_⟩
    rcases List.mem_cons.mp hp with rfl | hp
    · have := h1.2.1
      rw [e1] at this
      rw [this, List.map_map]
      rfl
    · exact p3 p hp
def adr : Value → Addr
  | .ref a => a
  | _ => 0
open Classical in
theorem cr_sortD (hc : X.calm = true) (hu : X.A.units + 64 < cLine) : CallR X (.builtin "sorted") (rSortD X.K) := by
  intro pins s σ H vs us Q I rv h
  obtain ⟨d, kvs, nss, rfl, hd, hk, q⟩ := h
  obtain ⟨u, rfl, ru⟩ := vals1 rv
  cases ru
  obtain ⟨z, hs, ks, pr, o, es, ep, ho, hx, hdt, he, hn⟩ := (show ObjOk X.prog X.w H s.heap d (.dT kvs) from rd_of I.hok hd)
  obtain ⟨ps, p1, p2, p3⟩ := kt_pairs pr hk
  have l1 : es.size = ks.length := size_of_entries he
  have l2 : kvs.length = ks.length := Paired.length pr
  have l3 : ps.length = ks.length := by have := congrArg List.length p2; simpa using this
  have l4 : ps.length = nss.length := by rw [← p1, List.length_map]
  have one : ∀ (t : Addr) (xs ys : List V), SqT X.K H t xs → SqT X.K H t ys → xs = ys := fun t xs ys a b => I.tuple_inj a b
  have rp : ∀ p ∈ ps, Rp X.K H (V.ref p.2) (tupI p.1) := fun p hp => by
    obtain ⟨_, _, pt, hz⟩ := I.tuple (tupSq (K := X.K) (p3 p hp))
    exact .tup (p3 p hp) hz (.of_ints p.1)
  have key : ∀ p ∈ ps, keyT X.K H (V.ref p.2) = p.1 := fun p hp => rp_tupI_key one (rp p hp)
  have itI : ∀ (h' : Heap), (∀ b o, s.heap.get? b = some o → h'.get? b = some o) → ∀ v ∈ ps.map (fun p => Value.ref p.2), IsTupI h' v (keyT X.K H (backV v)) := fun h' kp v hv => by
    obtain ⟨p, hp, rfl⟩ := List.mem_map.mp hv
    obtain ⟨us, ru, ⟨o, ho, hc, n, hd⟩, _⟩ := I.tuple (tupSq (K := X.K) (p3 p hp))
    show IsTupI h' (.ref p.2) (keyT X.K H (V.ref p.2))
    rw [key p hp]
    exact ⟨p.2, o, us, n, rfl, kp _ _ ho, hc, hd, ints_of_vals ru⟩
  refine sorted_ordK (vs := ps.map fun p => Value.ref p.2) (kdl_raw hs hx hdt) (I.ok.hd hc) ho (by omega) (by rw [List.length_map]; omega) (lexL_swo fun v => keyT X.K H (backV v)) (fun acc it => ?_) (fun h2 h₁ tk a ha kk => ?_) fun h' tk e out c h1 h2 kp hle hg => ?_
  · have ea : acc.toList = ks.map fun x => Value.ref x.2.1 := by
      have hl : acc.toList.length = ks.length := by rw [Array.length_toList, it.1]; exact l1
      apply List.ext_getElem?
      intro j
      rw [List.getElem?_map]
      cases hj : acc.toList[j]? with
      | none =>
        have h1 := List.getElem?_eq_none_iff.mp hj
        rw [List.getElem?_eq_none (by omega)]
        all_goals rfl
      | some v =>
        obtain ⟨en, hen, hv⟩ := it.2 j v (by rw [← Array.getElem?_toList]; exact hj)
        have qe := entry_at he j
        rw [hen] at qe
        cases hb : ks[j]? with
        | none =>
          rw [hb] at qe
          exact nomatch (show some en = none from qe)
        | some b =>
          rw [hb] at qe
          have e2 : en = entryOfKey (tupleKind (mixKind X.prog X.w)) b := Option.some.inj qe
          rw [hv, e2]
          all_goals rfl
    rw [ea, show (fun x : List Key × Addr × Value => Value.ref x.2.1) = Value.ref ∘ (fun x => x.2.1) from rfl, ← List.map_map, ← p2, List.map_map]
    rfl
  · rw [List.length_map, l4] at h2
    refine tups_sortableG (s := { s with heap := h₁, toks := tk }) (k := fun v => keyT X.K H (backV v)) (by show X.A.units + 1 + 1 < cLine; omega) (by rw [List.length_map]; omega) (fun v hm => itI h₁ (fun b o e => (kk b o e).2) v hm) fun o e => ?_
    have e' : some o = some (seqObj "list" (ps.map fun p => Value.ref p.2).toArray 0) := e.symm.trans ha
    cases e'
    intro c
    exact absurd (Value.type.inj c) (by decide)
  · have mem : ∀ v ∈ out, ∃ p ∈ ps, v = Value.ref p.2 := fun v hv => by
      obtain ⟨p, hp, e⟩ := List.mem_map.mp (h2.perm.mem_iff.mp hv)
      exact ⟨p, hp, e.symm⟩
    have back : ∀ v ∈ out, ∃ a, v = Value.ref a := fun v hv => by
      obtain ⟨p, _, e⟩ := mem v hv
      exact ⟨_, e⟩
    have eb : out.map backV = (out.map fun v => ((keyT X.K H (backV v), adr v) : List Int × Addr)).map fun q => V.ref q.2 := by
      rw [List.map_map]
      refine List.map_congr_left fun v hv => ?_
      obtain ⟨a, rfl⟩ := back v hv
      rfl
    have Ifin := I.laid (t' := tk) (o := .lst (out.map backV)) kp hle ⟨by rw [List.length_map, h2.perm.length_eq, List.length_map]; omega, out, c, vals_back back, hg⟩
    refine ⟨.ref e, upd H e (.lst (out.map backV)), Ifin, rfl, ?_⟩
    rw [eb]
    refine q e _ (I.hok.fresh hle) ?_ ?_ (fun q hq => ?_) (by rw [List.length_map, h2.perm.length_eq, List.length_map]; omega)
    · rw [List.map_map]
      have := (h2.perm.map fun v => keyT X.K H (backV v))
      rw [List.map_map] at this
      refine this.trans ?_
      rw [← p1]
      refine List.Perm.of_eq (List.map_congr_left fun p hp => ?_)
      exact key p hp
    · rw [List.map_map, List.pairwise_map]
      exact h1
    · obtain ⟨v, hv, rfl⟩ := List.mem_map.mp hq
      obtain ⟨p, hp, rfl⟩ := mem v hv
      show H p.2 = some (.tup ((keyT X.K H (V.ref p.2)).map V.int)) ∧ (keyT X.K H (V.ref p.2)).length ≤ sizeLine
      rw [key p hp]
      obtain ⟨_, _, pt, hz⟩ := I.tuple (tupSq (K := X.K) (p3 p hp))
      rw [List.length_map] at hz
      exact ⟨p3 p hp, hz⟩
def bSortD : VN := fun ds Q => match ds with
  | [.dict ((.none, .none) :: kvs)] => match tupsOf (kvs.map (·.1)) with
    | some nss => ∀ mss : List (List Int), mss.Perm nss → mss.Pairwise (fun a b => lexL b a = false) → Q (.own (.l (mss.map tupI)))
    | none => False
  | _ => False
theorem keysD_inj {ks : List Key} {ns : List Int} (h : keysD ks = tupI ns) : ks = ns.map Sum.inl := by
  unfold keysD tupI at h
  injection h with h
  induction ks generalizing ns with
  | nil =>
    cases ns with
    | nil => rfl
    | cons _ _ => cases h
  | cons k ks ih =>
    cases ns with
    | nil => cases h
    | cons n ns =>
      rw [List.map_cons, List.map_cons] at h
      injection h with h1 h2
      cases k with
      | inl i =>
        have h1 : PyData.int i = PyData.int n := h1
        injection h1 with h1
        rw [h1, List.map_cons, ih h2]
      | inr x => cases h1
theorem rpT_keys {Z : Hp} : ∀ {ks : List (List Key × V)} {kvs : List (D × D)} {nss : List (List Int)}, RpT K Z ks kvs → kvs.map (·.1) = nss.map tupI → ks.map (·.1) = nss.map (·.map Sum.inl)
  | _, _, [], .nil, _ => rfl
  | _, _, _ :: _, .nil, h => by cases h
  | _, _, [], .cons _ _, h => by cases h
  | _, _, ns :: nss, .cons _ r, h => by
    rw [List.map_cons, List.map_cons] at h
    injection h with h1 h2
    rw [List.map_cons, List.map_cons, rpT_keys r h2, keysD_inj h1]
open Classical in
theorem sortD_ok {fr : FA} {n : Nat} {σ : St} {H : Hp} {Q : VK} (h : liftE X L (fBlt bSortD fr) σ H Q) : tCB (rSortD X.K) (liftA X L n fr) σ H Q := by
  obtain ⟨Z, Y, s, Xf, Qf, r, k, xo, h, q⟩ := h
  refine ⟨Z, Y, s, Xf, _, r, k, xo, h, fun vs H1 Z1 rs s1 hz rx hn h1 => ?_⟩
  obtain ⟨ds, rr, h2⟩ := lookAll_ok rx.l2 (fun j q d e1 e2 => rx.look e1 e2) h1
  have zh := rx.rel0.zh
  unfold bSortD at h2
  split at h2
  · split at h2
    · rename_i kvs nss eb
      obtain ⟨v, rfl, r1⟩ := rr.one
      rcases r1.dict zh with ⟨p, ks, rfl, hp, r2⟩ | ⟨p, ks, kvs', rfl, e0, hp, r2⟩ | ⟨x0, r2, e0, hxn⟩
      · exact r2.mark.elim
      · cases e0
        refine ⟨p, ks, nss, rfl, hp, rpT_keys r2 (tupsOf_eq eb), fun e qs he hpm hso hq hql => ?_⟩
        let Z2 : Hp := fun a => if ∃ q ∈ qs, q.2 = a then H1 a else Z1 a
        have z12 : Same Z1 Z2 := fun a o ea => by
          show (if _ then _ else _) = _
          split
          · exact zh a o ea
          · exact ea
        have z2h : Same Z2 H1 := fun a o ea => by
          have ea : (if ∃ q ∈ qs, q.2 = a then H1 a else Z1 a) = some o := ea
          split at ea
          · exact ea
          · exact zh a o ea
        have nw : ∀ a, Z2 a = Z1 a ∨ ∃ vs, H1 a = some (.tup vs) := fun a => by
          by_cases c : ∃ q ∈ qs, q.2 = a
          · obtain ⟨q, hq1, rfl⟩ := c
            exact .inr ⟨_, (hq q hq1).1⟩
          · exact .inl (if_neg c)
        have r3 := rx.rel0.growT z12 z2h nw
        have z2q : ∀ q ∈ qs, Z2 q.2 = some (.tup (q.1.map V.int)) := fun q hq1 => (if_pos ⟨q, hq1, rfl⟩).trans (hq q hq1).1
        have ra : ∀ q ∈ qs, Rp X.K Z2 (V.ref q.2) (tupI q.1) := fun q hq1 => .tup (z2q q hq1) (by rw [List.length_map]; exact (hq q hq1).2) (.of_ints q.1)
        have rl : ∀ l : List (List Int × Addr), (∀ q ∈ l, q ∈ qs) → RpAll X.K Z2 (l.map fun q => V.ref q.2) ((l.map (·.1)).map tupI) := fun l => by
          induction l with
          | nil => exact fun _ => .nil
          | cons q l ih => exact fun hl => .cons (ra q (hl q List.mem_cons_self)) (ih fun q' hq' => hl q' (List.mem_cons_of_mem _ hq'))
        exact q _ _ Z2 _ s1 (hz.trans z12) (r3.new (.lst z2h he (by rw [List.length_map]; exact hql) (rl qs fun q h => h))) (h2 (qs.map (·.1)) hpm hso)
      · cases e0
        exact (hxn rfl).elim
    · exact h2.elim
  · exact h2.elim
variable {e : Expr} {fr : FA} {p pos : Pos} {x : Str}
theorem pf_sortD (hc : X.calm = true) (hu : X.A.units + 64 < cLine) (hm : X.mg "sorted" = none) (ha : PFA X L [e] fr) (hg : Gl X "sorted" := by rfl)
    (hs : starEach [e] X.env = (false, eval e X.env) :: starEach [] X.env := by rfl) : PF X L (.Call (.Name "sorted" p) [e] [] pos) (fBlt bSortD fr) :=
  PE_imp (pe_callB (cr_sortD hc hu) hg hm bb_sorted ha (by decide) (by decide) hs rfl) fun _ _ _ => sortD_ok
end
end Hs
namespace Hs
open PySem
class Get (s : S) (i : Nat) (v : outParam SV) : Prop where e : s.getD i .no = v
class Put (s : S) (i : Nat) (v : SV) (s' : outParam S) : Prop where e : s.set i v = s'
class Pad (s : S) (n : Nat) (s' : outParam S) : Prop where e : s ++ List.replicate n .no = s'
instance getZ {v : SV} {s : S} : Get (v :: s) 0 v := ⟨rfl⟩
instance getS {v w : SV} {s : S} {i : Nat} [h : Get s i v] : Get (w :: s) (i + 1) v := ⟨h.e⟩
instance putZ {v w : SV} {s : S} : Put (w :: s) 0 v (v :: s) := ⟨rfl⟩
instance putS {v w : SV} {s s' : S} {i : Nat} [h : Put s i v s'] : Put (w :: s) (i + 1) v (w :: s') := ⟨by rw [List.set_cons_succ, h.e]⟩
instance padZ : Pad [] 0 [] := ⟨rfl⟩
instance padS {s : S} {n : Nat} [h : Pad [] n s] : Pad [] (n + 1) (.no :: s) := ⟨by rw [← h.e]; rfl⟩
instance padC {v : SV} {s s' : S} {n : Nat} [h : Pad s n s'] : Pad (v :: s) n (v :: s') := ⟨by rw [← h.e]; rfl⟩
section
variable {s' s'' : S}
variable {nx bk ct : S → Prop} {rt : R → S → Prop} {X xx : XF} {s : S} {a b c e : FE} {t u : FT} {f1 f2 : FS} {Q : R → S → Prop} {i j : Nat} {x y : D} {v : SV} {g g' : V2} {r : R} {rs : List R} {A B : Prop}
theorem st_seq (h : f1 ⟨fun s1 => f2 ⟨nx, rt, bk, ct, xx⟩ s1, rt, bk, ct, xx⟩ s) : fSeq f1 f2 ⟨nx, rt, bk, ct, xx⟩ s := h
/-- the ways through the first part meet -/
theorem st_join (P : S → Prop) (hrest : ∀ s', P s' → f2 ⟨nx, rt, bk, ct, xx⟩ s') (h : ∀ k : S → Prop, (∀ s', P s' → k s') → f1 ⟨k, rt, bk, ct, xx⟩ s) : fSeq f1 f2 ⟨nx, rt, bk, ct, xx⟩ s := h _ hrest
theorem st_asg (h : a xx s fun r s1 => putR i r s1 nx) : fAsg i a ⟨nx, rt, bk, ct, xx⟩ s := h
theorem st_next (h : nx s) : fNext ⟨nx, rt, bk, ct, xx⟩ s := h
theorem st_if (h : t xx s fun c s1 => if c = true then f1 ⟨nx, rt, bk, ct, xx⟩ s1 else f2 ⟨nx, rt, bk, ct, xx⟩ s1) : fIfS t f1 f2 ⟨nx, rt, bk, ct, xx⟩ s := h
theorem st_ret (h : a xx s rt) : fRet a ⟨nx, rt, bk, ct, xx⟩ s := h
theorem st_retN (h : rt (.d .none) s) : fRetN ⟨nx, rt, bk, ct, xx⟩ s := h
theorem st_break (h : bk s) : fBreak ⟨nx, rt, bk, ct, xx⟩ s := h
theorem st_drop (h : a xx s fun _ s1 => nx s1) : fDrop a ⟨nx, rt, bk, ct, xx⟩ s := h
theorem st_raise {n : Str} (h : xx n s) : fRaise n ⟨nx, rt, bk, ct, xx⟩ s := h
theorem st_put_d {k : S → Prop} [p : Put s i (.d x) s'] (h : k s') : putR i (.d x) s k := by rw [← p.e] at h; exact h
theorem st_put_own {k : S → Prop} [p : Put s i v s'] (h : k s') : putR i (.own v) s k := by rw [← p.e] at h; exact h
theorem st_put_top {k : S → Prop} (e : asD (s.getD j .no) = some x) (h : k ((s.set j (.d x)).set i (.d x))) : putR i (.top j) s k := by unfold putR; dsimp only; rw [e]; exact h
theorem st_put_top_l {k : S → Prop} {xs : List D} [g : Get s j (.l xs)] [p : Put s j (.d (.list xs)) s'] [p2 : Put s' i (.d (.list xs)) s''] (h : k s'') : putR i (.top j) s k :=
  st_put_top (x := .list xs) (by rw [g.e]; rfl) (by rw [p.e, p2.e]; exact h)
theorem st_put_top_ll {k : S → Prop} {xs : List (List D)} [g : Get s j (.ll xs)] [p : Put s j (.d (.list (xs.map .list))) s'] [p2 : Put s' i (.d (.list (xs.map .list))) s''] (h : k s'') : putR i (.top j) s k :=
  st_put_top (x := .list (xs.map .list)) (by rw [g.e]; rfl) (by rw [p.e, p2.e]; exact h)
theorem st_put_top_dc {k : S → Prop} {xs : List (D × D)} [g : Get s j (.dc xs)] [p : Put s j (.d (.dict xs)) s'] [p2 : Put s' i (.d (.dict xs)) s''] (h : k s'') : putR i (.top j) s k :=
  st_put_top (x := .dict xs) (by rw [g.e]; rfl) (by rw [p.e, p2.e]; exact h)
theorem st_unp {fg : FG} (h : a xx s fun r s1 => frz r s1 fun d s2 => fg d s2 nx) : fUnp fg a ⟨nx, rt, bk, ct, xx⟩ s := h
theorem st_par {fa : FA} (h : fa xx s fun rs s2 => match rs with | [r1, r2] => frz r1 s2 fun d1 s3 => frz r2 s3 fun d2 s4 => putR i (.d d1) s4 fun s5 => putR j (.d d2) s5 nx | _ => False) : fPar i j fa ⟨nx, rt, bk, ct, xx⟩ s := h
theorem st_setIx (h : a xx s fun r s1 => onL i s1 fun _ => b xx s1 fun rj s2 => match rj with
  | .d (.int k) => frz r s2 fun d s3 => onL i s3 fun xs => 0 ≤ k ∧ k.toNat < xs.length ∧ putR i (.own (.l (xs.set k.toNat d))) s3 nx
  | _ => False) : fSetIx i b a ⟨nx, rt, bk, ct, xx⟩ s := h
theorem st_onL {k : List D → Prop} {xs : List D} [e : Get s i (.l xs)] (h : k xs) : onL i s k := by unfold onL; rw [e.e]; exact h
/-- slots forgotten -/
def wipeK (s : S) (wp : List Nat) (k : S → Prop) : Prop := k (wipeS s wp)
theorem st_wipe_nil {k : S → Prop} (h : k s) : wipeK s [] k := h
theorem st_wipe_cons {k : S → Prop} {is : List Nat} [p : Put s i .no s'] (h : wipeK s' is k) : wipeK s (i :: is) k := by rw [← p.e] at h; exact h
theorem st_for {it : FI} {fg : FG} {wp : List Nat} (h : it xx s fun xs s1 => wipeK s1 wp fun s2 => fLoop fg wp f1 ⟨nx, rt, bk, ct, xx⟩ xs s2) : fFor it fg wp f1 ⟨nx, rt, bk, ct, xx⟩ s := h
theorem st_var_d [e : Get s i (.d x)] (h : Q (.d x) s) : fVar i X s Q := by unfold fVar; rw [e.e]; exact h
theorem st_var_l {xs : List D} [e : Get s i (.l xs)] (h : Q (.top i) s) : fVar i X s Q := by unfold fVar; rw [e.e]; exact h
theorem st_var_ll {xs : List (List D)} [e : Get s i (.ll xs)] (h : Q (.top i) s) : fVar i X s Q := by unfold fVar; rw [e.e]; exact h
theorem st_var_dc {xs : List (D × D)} [e : Get s i (.dc xs)] (h : Q (.top i) s) : fVar i X s Q := by unfold fVar; rw [e.e]; exact h
theorem st_C (h : Q (.d x) s) : fC x X s Q := h
theorem st_nil {k : List R → S → Prop} (h : k [] s) : fNil X s k := h
theorem st_cons {k : List R → S → Prop} {fr : FA} (h : a X s fun x s1 => fr X s1 fun xs s2 => k (x :: xs) s2) : fCons a fr X s k := h
theorem st_tup {fr : FA} (h : fr X s fun rs s1 => frzAll rs s1 fun ds s2 => Q (.d (.tuple ds)) s2) : fTup fr X s Q := h
theorem st_lst {fr : FA} (h : fr X s fun rs s1 => frzAll rs s1 fun ds s2 => Q (.own (.l ds)) s2) : fLst fr X s Q := h
theorem st_op (h : a X s fun r1 s1 => b X s1 fun r2 s2 => look s2 r1 fun d => look s2 r2 fun e => g d e fun r => Q r s2) : fOp g a b X s Q := h
theorem st_un {g1 : V1} (h : a X s fun r1 s1 => look s1 r1 fun d => g1 d fun r => Q r s1) : fUn g1 a X s Q := h
theorem st_blt {gn : VN} {fr : FA} (h : fr X s fun rs s1 => fBlt.lookAll s1 rs fun ds => gn ds fun r => Q r s1) : fBlt gn fr X s Q := h
theorem st_lookAll_nil {k : List D → Prop} (h : k []) : fBlt.lookAll s [] k := h
theorem st_lookAll_cons {k : List D → Prop} (h : look s r fun d => fBlt.lookAll s rs fun ds => k (d :: ds)) : fBlt.lookAll s (r :: rs) k := h
theorem st_andV (h : a X s fun r s1 => isB r fun c => if c = true then b X s1 Q else Q (.d (.bool false)) s1) : fAndV a b X s Q := h
theorem st_orV (h : a X s fun r s1 => isB r fun c => if c = true then Q (.d (.bool true)) s1 else b X s1 Q) : fOrV a b X s Q := h
theorem st_notV (h : a X s fun r s1 => isB r fun c => Q (.d (.bool (!c))) s1) : fNotV a X s Q := h
theorem st_ifE (h : t X s fun c s1 => if c = true then a X s1 Q else b X s1 Q) : fIfE t a b X s Q := h
theorem st_chain (h : a X s fun r1 s1 => b X s1 fun r2 s2 => look s2 r1 fun d => look s2 r2 fun e => g d e fun r => isB r fun k =>
  if k = true then c X s2 fun r3 s3 => look s3 r2 fun e' => look s3 r3 fun h => g' e' h fun z => Q z s3 else Q (.d (.bool false)) s2) : fChain g g' a b c X s Q := h
theorem st_sl {gs : D → Option Int → Option Int → (R → Prop) → Prop} {lo hi : FO} (h : a X s fun r s1 => lo X s1 fun l s2 => hi X s2 fun h s3 => look s3 r fun d => gs d l h fun z => Q z s3) : fSl gs a lo hi X s Q := h
theorem st_noPart {k : Option Int → S → Prop} (h : k none s) : fNoPart X s k := h
theorem st_part {k : Option Int → S → Prop} (h : a X s fun r s1 => match r with | .d (.int i) => k (some i) s1 | _ => False) : fPart a X s k := h
/-- what was lent comes back -/
def putK (ms : List Bool) (rs : List R) (fin s : S) (k : S → Prop) : Prop := k (putB ms rs fin s)
theorem st_putK_nil {fin : S} {k : S → Prop} (h : k s) : putK [] [] fin s k := by
  unfold putK putB; exact h
theorem st_putK_t {ms : List Bool} {fin : S} {f : SV} {k : S → Prop} [p : Put s i f s'] (h : putK ms rs fin s' k) : putK (true :: ms) (.top i :: rs) (f :: fin) s k := by
  rw [← p.e] at h; exact h
theorem st_putK_td {ms : List Bool} {fin : S} {f : SV} {k : S → Prop} (h : putK ms rs fin s k) : putK (true :: ms) (.d x :: rs) (f :: fin) s k := h
theorem st_putK_to {ms : List Bool} {fin : S} {f : SV} {k : S → Prop} (h : putK ms rs fin s k) : putK (true :: ms) (.own v :: rs) (f :: fin) s k := h
theorem st_putK_f {ms : List Bool} {fin : S} {f : SV} {k : S → Prop} (h : putK ms rs fin s k) : putK (false :: ms) (r :: rs) (f :: fin) s k := h
theorem st_call {sem : FSem} {ms : List Bool} {fr : FA} (h : fr X s fun rs s1 => bindA ms rs s1 fun svs s2 => sem svs (fun n fin => X n (putB ms rs fin s2)) fun r fin => putK ms rs fin s2 fun s3 => Q r s3) : fCall sem ms fr X s Q := h
theorem putB_none : ∀ {ms : List Bool} {rs : List R} {fin s : S}, ms.all (!·) = true → putB ms rs fin s = s
  | [], _, _, _, _ => by unfold putB; rfl
  | true :: _, _, _, _, h => by simp at h
  | false :: ms, [], _, _, _ => by unfold putB; rfl
  | false :: ms, _ :: _, [], _, _ => by unfold putB; rfl
  | false :: ms, _ :: rs, _ :: fin, s, h => by
    unfold putB
    exact putB_none (by simpa using h)
theorem st_callF {sem : FSem} {ms : List Bool} {fr : FA} (e : ms.all (!·) = true) (h : fr X s fun rs s1 => bindA ms rs s1 fun svs s2 => sem svs (fun n _ => X n s2) fun r _ => Q r s2) : fCall sem ms fr X s Q := by
  have q : ∀ (rs : List R) (s2 : S), (fun n fin => X n (putB ms rs fin s2)) = fun (n : Str) (fin : S) => X n s2 := fun rs s2 => by
    funext n fin; rw [putB_none e]
  have q2 : ∀ (rs : List R) (s2 : S), (fun r fin => Q r (putB ms rs fin s2)) = fun (r : R) (fin : S) => Q r s2 := fun rs s2 => by
    funext n fin; rw [putB_none e]
  unfold fCall
  simp only [q, q2]
  exact h
theorem st_lc {it : FI} {fg : FG} {wp : List Nat} (h : it X s fun xs s1 => xs.length ≤ sizeLine ∧ wipeK s1 wp fun s2 => fComp (fun _ _ => False) fg wp t e Q xs [] s2) : fLc it fg wp t e X s Q := h
theorem st_lm {lm : LM} {fr : FA} (h : onL i s fun _ => fr X s fun rs s1 => frzAll rs s1 fun ds s2 => onL i s2 fun xs => lm xs ds fun d xs' => putR i (.own (.l xs')) s2 fun s3 => Q (.d d) s3) : fLm i lm fr X s Q := h
variable {q : Bool → S → Prop}
theorem st_B (h : a X s fun r s1 => isB r fun c => q c s1) : fB a X s q := h
theorem st_and (h : t X s fun c s1 => if c = true then u X s1 q else q false s1) : fAnd t u X s q := h
theorem st_or (h : t X s fun c s1 => if c = true then q true s1 else u X s1 q) : fOr t u X s q := h
theorem st_not (h : t X s fun c s1 => q (!c) s1) : fNot t X s q := h
theorem st_yes (h : q true s) : fYes X s q := h
theorem st_isB {k : Bool → Prop} {z : Bool} (h : k z) : isB (.d (.bool z)) k := h
theorem st_t (h : A) : if true = true then A else B := by simpa using h
theorem st_f (h : B) : if false = true then A else B := by simpa using h
theorem st_nt (h : B) : if (!true) = true then A else B := by simpa using h
theorem st_nf (h : A) : if (!false) = true then A else B := by simpa using h
theorem st_ite {z : Bool} (h1 : z = true → A) (h2 : z = false → B) : if z = true then A else B := by
  cases z
  · simpa using h2 rfl
  · simpa using h1 rfl
theorem st_iteT {z : Bool} (e : z = true) (h : A) : if z = true then A else B := by rw [if_pos e]; exact h
theorem st_iteF {z : Bool} (e : z = false) (h : B) : if z = true then A else B := by rw [if_neg (by simp [e])]; exact h
theorem st_look_d {k : D → Prop} (h : k x) : look s (.d x) k := h
theorem st_look_own {k : D → Prop} {xs : List D} (h : k (.list xs)) : look s (.own (.l xs)) k := h
theorem st_look_own_dc {k : D → Prop} {xs : List (D × D)} (h : k (.dict xs)) : look s (.own (.dc xs)) k := h
theorem st_look_top {k : D → Prop} {xs : List D} [e : Get s i (.l xs)] (h : k (.list xs)) : look s (.top i) k := by
  unfold look
  rw [show viewR s (.top i) = some (.list xs) by show viewS (s.getD i .no) = _; rw [e.e]; rfl]; exact h
theorem st_look_top_d {k : D → Prop} [e : Get s i (.d x)] (h : k x) : look s (.top i) k := by
  unfold look viewR
  dsimp only
  rw [e.e]
  exact h
theorem st_look_top_dc {k : D → Prop} {xs : List (D × D)} [e : Get s i (.dc xs)] (h : k (.dict xs)) : look s (.top i) k := by
  unfold look
  rw [show viewR s (.top i) = some (.dict xs) by show viewS (s.getD i .no) = _; rw [e.e]; rfl]; exact h
theorem st_frz_d {k : D → S → Prop} (h : k x s) : frz (.d x) s k := h
theorem st_frz_own {k : D → S → Prop} {xs : List D} (h : k (.list xs) s) : frz (.own (.l xs)) s k := h
theorem st_frz_own_ll {k : D → S → Prop} {xs : List (List D)} (h : k (.list (xs.map .list)) s) : frz (.own (.ll xs)) s k := h
theorem st_frz_own_dc {k : D → S → Prop} {xs : List (D × D)} (h : k (.dict xs) s) : frz (.own (.dc xs)) s k := h
theorem frz_top' {k : D → S → Prop} (e : asD (s.getD i .no) = some x) (h : k x (s.set i (.d x))) : frz (.top i) s k := by unfold frz; dsimp only; rw [e]; exact h
theorem st_frz_top {k : D → S → Prop} {xs : List D} [e : Get s i (.l xs)] [p : Put s i (.d (.list xs)) s'] (h : k (.list xs) s') : frz (.top i) s k := frz_top' (x := .list xs) (by rw [e.e]; rfl) (by rw [p.e]; exact h)
theorem st_frz_top_ll {k : D → S → Prop} {xs : List (List D)} [e : Get s i (.ll xs)] [p : Put s i (.d (.list (xs.map .list))) s'] (h : k (.list (xs.map .list)) s') : frz (.top i) s k := frz_top' (x := .list (xs.map .list)) (by rw [e.e]; rfl) (by rw [p.e]; exact h)
theorem st_frz_top_dc {k : D → S → Prop} {xs : List (D × D)} [e : Get s i (.dc xs)] [p : Put s i (.d (.dict xs)) s'] (h : k (.dict xs) s') : frz (.top i) s k := frz_top' (x := .dict xs) (by rw [e.e]; rfl) (by rw [p.e]; exact h)
theorem st_frzAll_nil {k : List D → S → Prop} (h : k [] s) : frzAll [] s k := h
theorem st_frzAll_cons {k : List D → S → Prop} (h : frz r s fun x s1 => frzAll rs s1 fun xs s2 => k (x :: xs) s2) : frzAll (r :: rs) s k := h
variable {ms : List Bool} {kb : List SV → S → Prop}
theorem st_bind_nil (h : kb [] s) : bindA [] [] s kb := h
theorem st_bind_f (h : frz r s fun x s1 => bindA ms rs s1 fun svs s2 => kb (.d x :: svs) s2) : bindA (false :: ms) (r :: rs) s kb := h
theorem st_bind_tt [g : Get s i v] [p : Put s i .no s'] (h : bindA ms rs s' fun svs s2 => kb (v :: svs) s2) : bindA (true :: ms) (.top i :: rs) s kb := by
  rw [← p.e, ← g.e] at h; exact h
theorem st_bind_td (h : bindA ms rs s fun svs s2 => kb (.d x :: svs) s2) : bindA (true :: ms) (.d x :: rs) s kb := h
theorem st_bind_to (h : bindA ms rs s fun svs s2 => kb (v :: svs) s2) : bindA (true :: ms) (.own v :: rs) s kb := h
theorem st_out_d {k : R → S → Prop} (h : k (.d x) s) : outR (.d x) s k := h
theorem st_out_own {k : R → S → Prop} (h : k (.own v) s) : outR (.own v) s k := h
theorem st_out_top {k : R → S → Prop} [g : Get s i v] [p : Put s i .no s'] (h : k (.own v) s') : outR (.top i) s k := by
  rw [← p.e, ← g.e] at h; exact h
variable {kl : List D → S → Prop} {fr : FA} {ds : List D} {n m : Int}
theorem st_seqI (h : a X s fun r s1 => frz r s1 fun d s2 => match d with | .list xs => kl xs s2 | .tuple xs => kl xs s2 | _ => False) : iSeq a X s kl := h
theorem st_range1 (h : fr X s fun rs s1 => match rs with | [.d (.int j)] => lim62 j ∧ kl (rangeD 0 j.toNat) s1 | _ => False) : iRange1 fr X s kl := h
theorem st_range2 (h : fr X s fun rs s2 => match rs with | [.d (.int i), .d (.int j)] => lim62 i ∧ lim62 j ∧ kl (rangeD i (j - i).toNat) s2 | _ => False) : iRange2 fr X s kl := h
theorem st_enum (h : fr X s fun rs s1 => frzAll rs s1 fun ds s2 => match ds with
  | [.list xs] => kl (enumD xs) s2
  | [.tuple xs] => kl (enumD xs) s2
  | _ => False) : iEnum fr X s kl := h
theorem st_zip (h : fr X s fun rs s1 => frzAll rs s1 fun ds s4 => match ds with
  | [.list xs, .list ys] => kl (zipD xs ys) s4
  | [.tuple xs, .list ys] => kl (zipD xs ys) s4
  | [.list xs, .tuple ys] => kl (zipD xs ys) s4
  | [.tuple xs, .tuple ys] => kl (zipD xs ys) s4
  | _ => False) : iZip fr X s kl := h
theorem st_nm {k : S → Prop} [p : Put s i (.d x) s'] (h : k s') : gNm i x s k := by rw [← p.e] at h; exact h
/-- a def's body begins -/
theorem st_sem {np nl n : Nat} {svs : S} {f : FS} (e : nl = n + np) [p : Pad svs n s] (h : f ⟨fun s => Q (.d .none) (s.take np), fun r s => outR r s fun r' s' => Q r' (s'.take np), fun _ => False, fun _ => False, fun n s => X n (s.take np)⟩ s) : semOf np nl f svs X Q := by
  subst e
  rw [← p.e] at h
  unfold semOf
  rw [Nat.add_sub_cancel]
  exact h
theorem st_tp {k : S → Prop} {fgs : List FG} (h : gTp.gTps fgs ds s k) : gTp fgs (.tuple ds) s k := h
theorem st_tps_nil {k : S → Prop} (h : k s) : gTp.gTps [] [] s k := h
theorem st_tps_cons {k : S → Prop} {fg : FG} {fgs : List FG} (h : fg x s fun s1 => gTp.gTps fgs ds s1 k) : gTp.gTps (fg :: fgs) (x :: ds) s k := h
variable {k : R → Prop} {xs ys : List D}
theorem st_add_i (h : k (.d (.int (n + m)))) : opAdd (.int n) (.int m) k := h
theorem st_add_l (z : xs.length + ys.length ≤ sizeLine) (h : k (.own (.l (xs ++ ys)))) : opAdd (.list xs) (.list ys) k := ⟨z, h⟩
theorem st_add_t (z : xs.length + ys.length ≤ sizeLine) (h : k (.d (.tuple (xs ++ ys)))) : opAdd (.tuple xs) (.tuple ys) k := ⟨z, h⟩
theorem st_sub_i (h : k (.d (.int (n - m)))) : opSub (.int n) (.int m) k := h
theorem st_mul_i (z : okM n m) (h : k (.d (.int (n * m)))) : opMul (.int n) (.int m) k := ⟨z, h⟩
theorem st_fdiv_i (z : okD m) (h : k (.d (.int (n / m)))) : opFdiv (.int n) (.int m) k := ⟨z, h⟩
theorem st_mod_i (z : 0 < m) (h : k (.d (.int (n % m)))) : opMod (.int n) (.int m) k := ⟨z, h⟩
instance {j : Int} : Decidable (okD j) := by unfold okD; infer_instance
instance {i j : Int} : Decidable (okM i j) := by unfold okM; infer_instance
instance {i : Int} : Decidable (lim62 i) := by unfold lim62; infer_instance
theorem lg_le {n k : Nat} (h : n < 2 ^ k) : n.log2 ≤ k := by
  by_cases h0 : n = 0
  · subst h0; simp
  · exact Nat.le_of_lt ((Nat.log2_lt h0).mpr h)
/-- a bound of both factors -/
theorem okM_of (p q : Nat) {i j : Int} (h1 : i.natAbs < 2 ^ p) (h2 : j.natAbs < 2 ^ q) (h : p + q < 1000000 := by decide) : okM i j := by
  have := lg_le h1
  have := lg_le h2
  unfold okM
  omega
theorem okD_of (q : Nat) {j : Int} (h0 : 0 < j) (h2 : j.natAbs < 2 ^ q) (h : q < 9000 := by decide) : okD j := ⟨h0, by have := lg_le h2; omega⟩
theorem st_neg_i (h : k (.d (.int (-n)))) : uNeg (.int n) k := h
theorem st_eq_i (h : k (.d (.bool (decide (n = m))))) : cEq (.int n) (.int m) k := .inr ⟨rfl, rfl, h⟩
theorem st_ne_i (h : k (.d (.bool (!decide (n = m))))) : cNe (.int n) (.int m) k := .inr ⟨rfl, rfl, h⟩
theorem st_eq_b {p q : Bool} (h : k (.d (.bool (p == q)))) : cEq (.bool p) (.bool q) k := .inr ⟨rfl, rfl, by cases p <;> cases q <;> exact h⟩
theorem st_ne_b {p q : Bool} (h : k (.d (.bool (!(p == q))))) : cNe (.bool p) (.bool q) k := .inr ⟨rfl, rfl, by cases p <;> cases q <;> exact h⟩
theorem st_eq (z1 : SeqAt.shaped (unlit x) = true) (z2 : SeqAt.shaped (unlit y) = true) (h : k (.d (.bool (PyData.eqv (unlit x) (unlit y))))) : cEq x y k := .inr ⟨z1, z2, h⟩
theorem st_ne (z1 : SeqAt.shaped (unlit x) = true) (z2 : SeqAt.shaped (unlit y) = true) (h : k (.d (.bool (!PyData.eqv (unlit x) (unlit y))))) : cNe x y k := .inr ⟨z1, z2, h⟩
theorem st_eq_str {p q : Str} (h : k (.d (.bool (decide (p = q))))) : cEq (.str p) (.str q) k := .inl ⟨p, q, rfl, rfl, h⟩
theorem st_ne_str {p q : Str} (h : k (.d (.bool (!decide (p = q))))) : cNe (.str p) (.str q) k := .inl ⟨p, q, rfl, rfl, h⟩
theorem st_lt_i (h : k (.d (.bool (decide (n < m))))) : cLt (.int n) (.int m) k := h
theorem st_le_i (h : k (.d (.bool (decide (n ≤ m))))) : cLe (.int n) (.int m) k := h
theorem st_gt_i (h : k (.d (.bool (decide (m < n))))) : cGt (.int n) (.int m) k := h
theorem st_ge_i (h : k (.d (.bool (decide (m ≤ n))))) : cGe (.int n) (.int m) k := h
theorem st_is_n (h : k (.d (.bool (isNone x)))) : cIs x .none k := by cases x <;> exact h
theorem st_isNot_n (h : k (.d (.bool (!isNone x)))) : cIsNot x .none k := by cases x <;> exact h
theorem st_is_b {p q : Bool} (h : k (.d (.bool (decide (p = q))))) : cIs (.bool p) (.bool q) k := h
theorem st_isNot_b {p q : Bool} (h : k (.d (.bool (!decide (p = q))))) : cIsNot (.bool p) (.bool q) k := h
theorem st_ix_l (e : L2.atI xs n = some x) (h : k (.d x)) : ixD (.list xs) (.int n) k := by
  show (match L2.atI xs n with | some x => k (.d x) | none => False)
  rw [e]; exact h
theorem st_ix_t (e : L2.atI xs n = some x) (h : k (.d x)) : ixD (.tuple xs) (.int n) k := by
  show (match L2.atI xs n with | some x => k (.d x) | none => False)
  rw [e]; exact h
theorem st_ix_lit {ns : List Int} {z : Int} (e : L2.atI ns n = some z) (h : k (.d (.int z))) : ixD (litD ns) (.int n) k := by
  show (match L2.atI (ns.map PyData.int) n with | some x => k (.d x) | none => False)
  rw [show L2.atI (ns.map PyData.int) n = some (.int z) by
    unfold L2.atI at e ⊢
    rw [List.length_map]
    cases q : L2.ixN ns.length n with
    | none => rw [q] at e; cases e
    | some j =>
      rw [q] at e
      show (ns.map PyData.int)[j]? = _
      rw [List.getElem?_map, show ns[j]? = some z from e]; rfl]
  exact h
theorem st_len_l (h : k (.d (.int (xs.length : Nat)))) : bLen [.list xs] k := h
theorem st_len_t (h : k (.d (.int (xs.length : Nat)))) : bLen [.tuple xs] k := h
theorem st_len_lit {ns : List Int} (h : k (.d (.int (ns.length : Nat)))) : bLen [litD ns] k := by
  show k (.d (.int ((ns.map PyData.int).length : Nat)))
  rw [List.length_map]; exact h
theorem st_abs (h : k (.d (.int (n.natAbs : Nat)))) : bAbs [.int n] k := by
  show k (.d (.int (if n < 0 then -n else n)))
  rw [show (if n < 0 then -n else n) = ((n.natAbs : Nat) : Int) by split <;> omega]
  exact h
theorem st_max2 (h : k (.d (.int (max n m)))) : bMax2 [.int n, .int m] k := by
  show k (.d (.int (if m > n then m else n)))
  rw [show (if m > n then m else n) = max n m by split <;> omega]
  exact h
theorem st_min2 (h : k (.d (.int (min n m)))) : bMin2 [.int n, .int m] k := by
  show k (.d (.int (if m < n then m else n)))
  rw [show (if m < n then m else n) = min n m by split <;> omega]
  exact h
theorem st_int_i (h : k (.d (.int n))) : bInt [.int n] k := h
theorem st_int_b {p : Bool} (h : k (.d (.int (if p then 1 else 0)))) : bInt [.bool p] k := h
theorem st_tuple_l (h : k (.d (.tuple xs))) : bTuple [.list xs] k := h
theorem st_tuple_t (h : k (.d (.tuple xs))) : bTuple [.tuple xs] k := h
theorem st_list_l (h : k (.own (.l xs))) : bList [.list xs] k := h
theorem st_list_t (h : k (.own (.l xs))) : bList [.tuple xs] k := h
theorem boolsOf_map' : ∀ bs : List Bool, boolsOf (bs.map PyData.bool) = some bs
  | [] => rfl
  | b :: bs => by show (boolsOf (bs.map PyData.bool)).map (b :: ·) = _; rw [boolsOf_map' bs]; rfl
theorem intsOf_map' : ∀ bs : List Int, intsOf (bs.map PyData.int) = some bs
  | [] => rfl
  | b :: bs => by show (intsOf (bs.map PyData.int)).map (b :: ·) = _; rw [intsOf_map' bs]; rfl
theorem st_all {bs : List Bool} (e : xs = bs.map PyData.bool) (h : k (.d (.bool (bs.all id)))) : bAll [.list xs] k := by
  show (match boolsOf xs with | some bs => k (.d (.bool (bs.all id))) | none => False)
  rw [e, boolsOf_map']; exact h
theorem st_any {bs : List Bool} (e : xs = bs.map PyData.bool) (h : k (.d (.bool (bs.any id)))) : bAny [.list xs] k := by
  show (match boolsOf xs with | some bs => k (.d (.bool (bs.any id))) | none => False)
  rw [e, boolsOf_map']; exact h
theorem st_isT {T : String} (e : isLit x = false) (h : k (.d (.bool (isTy T x)))) : bIs T x k := ⟨e, h⟩
theorem st_iteND {p : Prop} [Decidable p] (e : p) (h : B) : if (!decide p) = true then A else B := by rw [if_neg (by simp [e])]; exact h
theorem st_iteNF {p : Prop} [Decidable p] (e : ¬ p) (h : A) : if (!decide p) = true then A else B := by rw [if_pos (by simp [e])]; exact h
theorem st_iteLen {xs : List D} {m : Int} (e : ((xs.length : Nat) : Int) = m) (h : A) : if decide (((xs.length : Nat) : Int) = m) = true then A else B := by rw [if_pos (by simp [e])]; exact h
theorem st_iteNLen {xs : List D} {m : Int} (e : ((xs.length : Nat) : Int) = m) (h : B) : if (!decide (((xs.length : Nat) : Int) = m)) = true then A else B := by rw [if_neg (by simp [e])]; exact h
theorem st_iteBB {z : Bool} (h : B) : if (!(z == z)) = true then A else B := by rw [if_neg (by simp)]; exact h
theorem st_isTT {T : String} (e : isTy T x = true) (h : A) : if isTy T x = true then A else B := by rw [if_pos e]; exact h
theorem st_isTF {T : String} (e : isTy T x = false) (h : B) : if isTy T x = true then A else B := by rw [if_neg (by simp [e])]; exact h
theorem st_isNT {T : String} (e : isTy T x = true) (h : B) : if (!isTy T x) = true then A else B := by rw [if_neg (by simp [e])]; exact h
theorem st_isNF {T : String} (e : isTy T x = false) (h : A) : if (!isTy T x) = true then A else B := by rw [if_pos (by simp [e])]; exact h
theorem st_append {kk : D → List D → Prop} (z : xs.length < sizeLine) (h : kk .none (xs ++ [x])) : mAppend xs [x] kk := ⟨z, h⟩
theorem st_sl_l {lo hi : Option Int} (h : k (.own (.l (slD.cutL xs lo hi)))) : slD (.list xs) lo hi k := h
theorem st_sl_t {lo hi : Option Int} (h : k (.d (.tuple (slD.cutL xs lo hi)))) : slD (.tuple xs) lo hi k := h
theorem loop_for {fg : FG} {wp : List Nat} (I : List D → S → Prop) (hend : ∀ s, I [] s → nx s)
    (hstep : ∀ x xs s (k : S → Prop), I (x :: xs) s → (∀ s', I xs s' → k s') → fg x s fun s1 => f1 ⟨fun s2 => k (wipeS s2 wp), rt, fun s2 => wipeK s2 wp nx, fun s2 => k (wipeS s2 wp), xx⟩ s1) :
    ∀ xs s, I xs s → fLoop fg wp f1 ⟨nx, rt, bk, ct, xx⟩ xs s
  | [], s, h => hend s h
  | x :: xs, s, h => hstep x xs s (fLoop fg wp f1 ⟨nx, rt, bk, ct, xx⟩ xs) h fun s' h' => loop_for I hend hstep xs s' h'
theorem rangeD_cons {lo : Int} {n : Nat} : rangeD lo (n + 1) = .int lo :: rangeD (lo + 1) n := by
  unfold rangeD
  rw [List.range_succ_eq_map, List.map_cons, List.map_map]
  simp only [Int.natCast_zero, Int.add_zero, List.cons.injEq, true_and]
  apply List.map_congr_left
  intro k _
  simp only [Function.comp]
  congr 1
  omega
theorem loop_range {fg : FG} {wp : List Nat} (I : Int → S → Prop) {lo hi : Int} (hend : ∀ s, I (max lo hi) s → nx s)
    (hstep : ∀ i s (k : S → Prop), lo ≤ i → i < hi → I i s → (∀ s', I (i + 1) s' → k s') → fg (.int i) s fun s1 => f1 ⟨fun s2 => k (wipeS s2 wp), rt, fun s2 => wipeK s2 wp nx, fun s2 => k (wipeS s2 wp), xx⟩ s1)
    (h0 : I lo s) : fLoop fg wp f1 ⟨nx, rt, bk, ct, xx⟩ (rangeD lo (hi - lo).toNat) s := by
  have go : ∀ (n : Nat) (i : Int) (s : S), lo ≤ i → (hi - i).toNat = n → (i ≤ hi ∨ i = lo) → I i s → fLoop fg wp f1 ⟨nx, rt, bk, ct, xx⟩ (rangeD i n) s := by
    intro n
    induction n with
    | zero =>
      intro i s h1 h2 h3 h4
      refine hend s ?_
      rw [show max lo hi = i by omega]
      exact h4
    | succ n ih =>
      intro i s h1 h2 h3 h4
      rw [rangeD_cons]
      exact hstep i s (fLoop fg wp f1 ⟨nx, rt, bk, ct, xx⟩ (rangeD (i + 1) n)) h1 (by omega) h4 fun s' h' => ih (i + 1) s' (by omega) (by omega) (.inl (by omega)) h'
  exact go _ lo s (Int.le_refl _) rfl (.inr rfl) h0
theorem loop_range1 {fg : FG} {wp : List Nat} (I : Int → S → Prop) {hi : Int} (hend : ∀ s, I (max 0 hi) s → nx s)
    (hstep : ∀ i s (k : S → Prop), 0 ≤ i → i < hi → I i s → (∀ s', I (i + 1) s' → k s') → fg (.int i) s fun s1 => f1 ⟨fun s2 => k (wipeS s2 wp), rt, fun s2 => wipeK s2 wp nx, fun s2 => k (wipeS s2 wp), xx⟩ s1)
    (h0 : I 0 s) : fLoop fg wp f1 ⟨nx, rt, bk, ct, xx⟩ (rangeD 0 hi.toNat) s := by
  have q := loop_range (lo := 0) (hi := hi) (bk := bk) (ct := ct) I hend hstep h0
  rw [Int.sub_zero] at q
  exact q
theorem loop_while {wp : List Nat} (I : Nat → S → Prop) (hstep : ∀ n s (k : S → Prop), I n s → (∀ m s', m < n → I m s' → k s') → t xx s fun c s1 => if c = true then f1 ⟨fun s2 => k (wipeS s2 wp), rt, fun s2 => wipeK s2 wp nx, fun s2 => k (wipeS s2 wp), xx⟩ s1 else nx s1)
    (n : Nat) (h0 : I n (wipeS s wp)) : fWhile wp t f1 ⟨nx, rt, bk, ct, xx⟩ s := by
  refine ⟨n + 1, ?_⟩
  generalize wipeS s wp = s0 at h0
  have go : ∀ N m s', m < N → I m s' → fWhileN wp t f1 ⟨nx, rt, bk, ct, xx⟩ N s' := by
    intro N
    induction N with
    | zero => intro m s' h; omega
    | succ N ih => exact fun m s' hm hI => hstep m s' (fWhileN wp t f1 ⟨nx, rt, bk, ct, xx⟩ N) hI fun m' s'' hm' hI' => ih m' s'' (by omega) hI'
  exact go (n + 1) n s0 (by omega) h0
/-- without a test -/
theorem comp_all {fg : FG} {wp : List Nat} (f : D → D)
    : ∀ (xs acc : List D), (∀ x, x ∈ xs → ∀ (kT : D → S → Prop), kT (f x) s → fg x s fun s1 => e X s1 fun r s3 => frz r s3 fun d s4 => kT d (wipeS s4 wp)) →
      Q (.own (.l (acc ++ xs.map f))) s → fComp X fg wp fYes e Q xs acc s
  | [], acc, _, h => by
    have h : Q (.own (.l (acc ++ []))) s := h
    rw [List.append_nil] at h
    exact h
  | x :: xs, acc, hs, h => by
    exact hs x List.mem_cons_self (fun d s4 => fComp X fg wp fYes e Q xs (acc ++ [d]) s4) (comp_all f xs _ (fun x hx => hs x (List.mem_cons_of_mem _ hx)) (by simpa using h))
end
end Hs
namespace Hs
open PySem
section
variable {s' s'' : S}
variable {nx bk ct : S → Prop} {rt : R → S → Prop} {X xx : XF} {s : S} {a b c e : FE} {t u : FT} {f1 f2 : FS} {Q : R → S → Prop} {i j : Nat} {x y : D} {v : SV} {g g' : V2} {r : R} {rs : List R} {A B : Prop}
class StepTo (P : Prop) (P' : outParam Prop) : Prop where go : P' → P
theorem stepTo {P P' : Prop} [i : StepTo P P'] (h : P') : P := i.go h
instance go_st_seq : StepTo (fSeq f1 f2 ⟨nx, rt, bk, ct, xx⟩ s) (f1 ⟨fun s1 => f2 ⟨nx, rt, bk, ct, xx⟩ s1, rt, bk, ct, xx⟩ s) := ⟨fun h => st_seq h⟩
instance go_st_asg : StepTo (fAsg i a ⟨nx, rt, bk, ct, xx⟩ s) (a xx s fun r s1 => putR i r s1 nx) := ⟨fun h => st_asg h⟩
instance go_st_next : StepTo (fNext ⟨nx, rt, bk, ct, xx⟩ s) (nx s) := ⟨fun h => st_next h⟩
instance go_st_if : StepTo (fIfS t f1 f2 ⟨nx, rt, bk, ct, xx⟩ s) (t xx s fun c s1 => if c = true then f1 ⟨nx, rt, bk, ct, xx⟩ s1 else f2 ⟨nx, rt, bk, ct, xx⟩ s1) := ⟨fun h => st_if h⟩
instance go_st_ret : StepTo (fRet a ⟨nx, rt, bk, ct, xx⟩ s) (a xx s rt) := ⟨fun h => st_ret h⟩
instance go_st_retN : StepTo (fRetN ⟨nx, rt, bk, ct, xx⟩ s) (rt (.d .none) s) := ⟨fun h => st_retN h⟩
instance go_st_break : StepTo (fBreak ⟨nx, rt, bk, ct, xx⟩ s) (bk s) := ⟨fun h => st_break h⟩
instance go_st_drop : StepTo (fDrop a ⟨nx, rt, bk, ct, xx⟩ s) (a xx s fun _ s1 => nx s1) := ⟨fun h => st_drop h⟩
instance go_st_raise {n : Str} : StepTo (fRaise n ⟨nx, rt, bk, ct, xx⟩ s) (xx n s) := ⟨fun h => st_raise h⟩
instance go_st_put_d {k : S → Prop} [p : Put s i (.d x) s'] : StepTo (putR i (.d x) s k) (k s') := ⟨fun h => st_put_d h⟩
instance go_st_put_own {k : S → Prop} [p : Put s i v s'] : StepTo (putR i (.own v) s k) (k s') := ⟨fun h => st_put_own h⟩
instance go_st_put_top_l {k : S → Prop} {xs : List D} [g : Get s j (.l xs)] [p : Put s j (.d (.list xs)) s'] [p2 : Put s' i (.d (.list xs)) s''] : StepTo (putR i (.top j) s k) (k s'') := ⟨fun h => st_put_top_l h⟩
instance go_st_put_top_ll {k : S → Prop} {xs : List (List D)} [g : Get s j (.ll xs)] [p : Put s j (.d (.list (xs.map .list))) s'] [p2 : Put s' i (.d (.list (xs.map .list))) s''] : StepTo (putR i (.top j) s k) (k s'') := ⟨fun h => st_put_top_ll h⟩
instance go_st_put_top_dc {k : S → Prop} {xs : List (D × D)} [g : Get s j (.dc xs)] [p : Put s j (.d (.dict xs)) s'] [p2 : Put s' i (.d (.dict xs)) s''] : StepTo (putR i (.top j) s k) (k s'') := ⟨fun h => st_put_top_dc h⟩
instance go_st_unp {fg : FG} : StepTo (fUnp fg a ⟨nx, rt, bk, ct, xx⟩ s) (a xx s fun r s1 => frz r s1 fun d s2 => fg d s2 nx) := ⟨fun h => st_unp h⟩
instance go_st_par {fa : FA} : StepTo (fPar i j fa ⟨nx, rt, bk, ct, xx⟩ s) (fa xx s fun rs s2 => match rs with | [r1, r2] => frz r1 s2 fun d1 s3 => frz r2 s3 fun d2 s4 => putR i (.d d1) s4 fun s5 => putR j (.d d2) s5 nx | _ => False) := ⟨fun h => st_par h⟩
instance go_st_setIx : StepTo (fSetIx i b a ⟨nx, rt, bk, ct, xx⟩ s) (a xx s fun r s1 => onL i s1 fun _ => b xx s1 fun rj s2 => match rj with
  | .d (.int k) => frz r s2 fun d s3 => onL i s3 fun xs => 0 ≤ k ∧ k.toNat < xs.length ∧ putR i (.own (.l (xs.set k.toNat d))) s3 nx
  | _ => False) := ⟨fun h => st_setIx h⟩
instance go_st_onL {k : List D → Prop} {xs : List D} [e : Get s i (.l xs)] : StepTo (onL i s k) (k xs) := ⟨fun h => st_onL h⟩
instance go_st_wipe_nil {k : S → Prop} : StepTo (wipeK s [] k) (k s) := ⟨fun h => st_wipe_nil h⟩
instance go_st_wipe_cons {k : S → Prop} {is : List Nat} [p : Put s i .no s'] : StepTo (wipeK s (i :: is) k) (wipeK s' is k) := ⟨fun h => st_wipe_cons h⟩
instance go_st_for {it : FI} {fg : FG} {wp : List Nat} : StepTo (fFor it fg wp f1 ⟨nx, rt, bk, ct, xx⟩ s) (it xx s fun xs s1 => wipeK s1 wp fun s2 => fLoop fg wp f1 ⟨nx, rt, bk, ct, xx⟩ xs s2) := ⟨fun h => st_for h⟩
instance go_st_var_d [e : Get s i (.d x)] : StepTo (fVar i X s Q) (Q (.d x) s) := ⟨fun h => st_var_d h⟩
instance go_st_var_l {xs : List D} [e : Get s i (.l xs)] : StepTo (fVar i X s Q) (Q (.top i) s) := ⟨fun h => st_var_l h⟩
instance go_st_var_ll {xs : List (List D)} [e : Get s i (.ll xs)] : StepTo (fVar i X s Q) (Q (.top i) s) := ⟨fun h => st_var_ll h⟩
instance go_st_var_dc {xs : List (D × D)} [e : Get s i (.dc xs)] : StepTo (fVar i X s Q) (Q (.top i) s) := ⟨fun h => st_var_dc h⟩
instance go_st_C : StepTo (fC x X s Q) (Q (.d x) s) := ⟨fun h => st_C h⟩
instance go_st_nil {k : List R → S → Prop} : StepTo (fNil X s k) (k [] s) := ⟨fun h => st_nil h⟩
instance go_st_cons {k : List R → S → Prop} {fr : FA} : StepTo (fCons a fr X s k) (a X s fun x s1 => fr X s1 fun xs s2 => k (x :: xs) s2) := ⟨fun h => st_cons h⟩
instance go_st_tup {fr : FA} : StepTo (fTup fr X s Q) (fr X s fun rs s1 => frzAll rs s1 fun ds s2 => Q (.d (.tuple ds)) s2) := ⟨fun h => st_tup h⟩
instance go_st_lst {fr : FA} : StepTo (fLst fr X s Q) (fr X s fun rs s1 => frzAll rs s1 fun ds s2 => Q (.own (.l ds)) s2) := ⟨fun h => st_lst h⟩
instance go_st_op : StepTo (fOp g a b X s Q) (a X s fun r1 s1 => b X s1 fun r2 s2 => look s2 r1 fun d => look s2 r2 fun e => g d e fun r => Q r s2) := ⟨fun h => st_op h⟩
instance go_st_un {g1 : V1} : StepTo (fUn g1 a X s Q) (a X s fun r1 s1 => look s1 r1 fun d => g1 d fun r => Q r s1) := ⟨fun h => st_un h⟩
instance go_st_blt {gn : VN} {fr : FA} : StepTo (fBlt gn fr X s Q) (fr X s fun rs s1 => fBlt.lookAll s1 rs fun ds => gn ds fun r => Q r s1) := ⟨fun h => st_blt h⟩
instance go_st_lookAll_nil {k : List D → Prop} : StepTo (fBlt.lookAll s [] k) (k []) := ⟨fun h => st_lookAll_nil h⟩
instance go_st_lookAll_cons {k : List D → Prop} : StepTo (fBlt.lookAll s (r :: rs) k) (look s r fun d => fBlt.lookAll s rs fun ds => k (d :: ds)) := ⟨fun h => st_lookAll_cons h⟩
instance go_st_andV : StepTo (fAndV a b X s Q) (a X s fun r s1 => isB r fun c => if c = true then b X s1 Q else Q (.d (.bool false)) s1) := ⟨fun h => st_andV h⟩
instance go_st_orV : StepTo (fOrV a b X s Q) (a X s fun r s1 => isB r fun c => if c = true then Q (.d (.bool true)) s1 else b X s1 Q) := ⟨fun h => st_orV h⟩
instance go_st_notV : StepTo (fNotV a X s Q) (a X s fun r s1 => isB r fun c => Q (.d (.bool (!c))) s1) := ⟨fun h => st_notV h⟩
instance go_st_ifE : StepTo (fIfE t a b X s Q) (t X s fun c s1 => if c = true then a X s1 Q else b X s1 Q) := ⟨fun h => st_ifE h⟩
instance go_st_chain : StepTo (fChain g g' a b c X s Q) (a X s fun r1 s1 => b X s1 fun r2 s2 => look s2 r1 fun d => look s2 r2 fun e => g d e fun r => isB r fun k =>
  if k = true then c X s2 fun r3 s3 => look s3 r2 fun e' => look s3 r3 fun h => g' e' h fun z => Q z s3 else Q (.d (.bool false)) s2) := ⟨fun h => st_chain h⟩
instance go_st_sl {gs : D → Option Int → Option Int → (R → Prop) → Prop} {lo hi : FO} : StepTo (fSl gs a lo hi X s Q) (a X s fun r s1 => lo X s1 fun l s2 => hi X s2 fun h s3 => look s3 r fun d => gs d l h fun z => Q z s3) := ⟨fun h => st_sl h⟩
instance go_st_noPart {k : Option Int → S → Prop} : StepTo (fNoPart X s k) (k none s) := ⟨fun h => st_noPart h⟩
instance go_st_part {k : Option Int → S → Prop} : StepTo (fPart a X s k) (a X s fun r s1 => match r with | .d (.int i) => k (some i) s1 | _ => False) := ⟨fun h => st_part h⟩
instance go_st_putK_nil {fin : S} {k : S → Prop} : StepTo (putK [] [] fin s k) (k s) := ⟨fun h => st_putK_nil h⟩
instance go_st_putK_t {ms : List Bool} {fin : S} {f : SV} {k : S → Prop} [p : Put s i f s'] : StepTo (putK (true :: ms) (.top i :: rs) (f :: fin) s k) (putK ms rs fin s' k) := ⟨fun h => st_putK_t h⟩
instance go_st_putK_td {ms : List Bool} {fin : S} {f : SV} {k : S → Prop} : StepTo (putK (true :: ms) (.d x :: rs) (f :: fin) s k) (putK ms rs fin s k) := ⟨fun h => st_putK_td h⟩
instance go_st_putK_to {ms : List Bool} {fin : S} {f : SV} {k : S → Prop} : StepTo (putK (true :: ms) (.own v :: rs) (f :: fin) s k) (putK ms rs fin s k) := ⟨fun h => st_putK_to h⟩
instance go_st_putK_f {ms : List Bool} {fin : S} {f : SV} {k : S → Prop} : StepTo (putK (false :: ms) (r :: rs) (f :: fin) s k) (putK ms rs fin s k) := ⟨fun h => st_putK_f h⟩
instance go_st_lc {it : FI} {fg : FG} {wp : List Nat} : StepTo (fLc it fg wp t e X s Q) (it X s fun xs s1 => xs.length ≤ sizeLine ∧ wipeK s1 wp fun s2 => fComp (fun _ _ => False) fg wp t e Q xs [] s2) := ⟨fun h => st_lc h⟩
instance go_st_lm {lm : LM} {fr : FA} : StepTo (fLm i lm fr X s Q) (onL i s fun _ => fr X s fun rs s1 => frzAll rs s1 fun ds s2 => onL i s2 fun xs => lm xs ds fun d xs' => putR i (.own (.l xs')) s2 fun s3 => Q (.d d) s3) := ⟨fun h => st_lm h⟩
variable {q : Bool → S → Prop}
instance go_st_B : StepTo (fB a X s q) (a X s fun r s1 => isB r fun c => q c s1) := ⟨fun h => st_B h⟩
instance go_st_and : StepTo (fAnd t u X s q) (t X s fun c s1 => if c = true then u X s1 q else q false s1) := ⟨fun h => st_and h⟩
instance go_st_or : StepTo (fOr t u X s q) (t X s fun c s1 => if c = true then q true s1 else u X s1 q) := ⟨fun h => st_or h⟩
instance go_st_not : StepTo (fNot t X s q) (t X s fun c s1 => q (!c) s1) := ⟨fun h => st_not h⟩
instance go_st_yes : StepTo (fYes X s q) (q true s) := ⟨fun h => st_yes h⟩
instance go_st_isB {k : Bool → Prop} {z : Bool} : StepTo (isB (.d (.bool z)) k) (k z) := ⟨fun h => st_isB h⟩
instance go_st_t : StepTo (if true = true then A else B) (A) := ⟨fun h => st_t h⟩
instance go_st_f : StepTo (if false = true then A else B) (B) := ⟨fun h => st_f h⟩
instance go_st_nt : StepTo (if (!true) = true then A else B) (B) := ⟨fun h => st_nt h⟩
instance go_st_nf : StepTo (if (!false) = true then A else B) (A) := ⟨fun h => st_nf h⟩
instance go_st_look_d {k : D → Prop} : StepTo (look s (.d x) k) (k x) := ⟨fun h => st_look_d h⟩
instance go_st_look_own {k : D → Prop} {xs : List D} : StepTo (look s (.own (.l xs)) k) (k (.list xs)) := ⟨fun h => st_look_own h⟩
instance go_st_look_own_dc {k : D → Prop} {xs : List (D × D)} : StepTo (look s (.own (.dc xs)) k) (k (.dict xs)) := ⟨fun h => st_look_own_dc h⟩
instance go_st_look_top {k : D → Prop} {xs : List D} [e : Get s i (.l xs)] : StepTo (look s (.top i) k) (k (.list xs)) := ⟨fun h => st_look_top h⟩
instance go_st_look_top_d {k : D → Prop} [e : Get s i (.d x)] : StepTo (look s (.top i) k) (k x) := ⟨fun h => st_look_top_d h⟩
instance go_st_look_top_dc {k : D → Prop} {xs : List (D × D)} [e : Get s i (.dc xs)] : StepTo (look s (.top i) k) (k (.dict xs)) := ⟨fun h => st_look_top_dc h⟩
instance go_st_frz_d {k : D → S → Prop} : StepTo (frz (.d x) s k) (k x s) := ⟨fun h => st_frz_d h⟩
instance go_st_frz_own {k : D → S → Prop} {xs : List D} : StepTo (frz (.own (.l xs)) s k) (k (.list xs) s) := ⟨fun h => st_frz_own h⟩
instance go_st_frz_own_ll {k : D → S → Prop} {xs : List (List D)} : StepTo (frz (.own (.ll xs)) s k) (k (.list (xs.map .list)) s) := ⟨fun h => st_frz_own_ll h⟩
instance go_st_frz_own_dc {k : D → S → Prop} {xs : List (D × D)} : StepTo (frz (.own (.dc xs)) s k) (k (.dict xs) s) := ⟨fun h => st_frz_own_dc h⟩
instance go_st_frz_top {k : D → S → Prop} {xs : List D} [e : Get s i (.l xs)] [p : Put s i (.d (.list xs)) s'] : StepTo (frz (.top i) s k) (k (.list xs) s') := ⟨fun h => st_frz_top h⟩
instance go_st_frz_top_ll {k : D → S → Prop} {xs : List (List D)} [e : Get s i (.ll xs)] [p : Put s i (.d (.list (xs.map .list))) s'] : StepTo (frz (.top i) s k) (k (.list (xs.map .list)) s') := ⟨fun h => st_frz_top_ll h⟩
instance go_st_frz_top_dc {k : D → S → Prop} {xs : List (D × D)} [e : Get s i (.dc xs)] [p : Put s i (.d (.dict xs)) s'] : StepTo (frz (.top i) s k) (k (.dict xs) s') := ⟨fun h => st_frz_top_dc h⟩
instance go_st_frzAll_nil {k : List D → S → Prop} : StepTo (frzAll [] s k) (k [] s) := ⟨fun h => st_frzAll_nil h⟩
instance go_st_frzAll_cons {k : List D → S → Prop} : StepTo (frzAll (r :: rs) s k) (frz r s fun x s1 => frzAll rs s1 fun xs s2 => k (x :: xs) s2) := ⟨fun h => st_frzAll_cons h⟩
variable {ms : List Bool} {kb : List SV → S → Prop}
instance go_st_bind_nil : StepTo (bindA [] [] s kb) (kb [] s) := ⟨fun h => st_bind_nil h⟩
instance go_st_bind_f : StepTo (bindA (false :: ms) (r :: rs) s kb) (frz r s fun x s1 => bindA ms rs s1 fun svs s2 => kb (.d x :: svs) s2) := ⟨fun h => st_bind_f h⟩
instance go_st_bind_tt [g : Get s i v] [p : Put s i .no s'] : StepTo (bindA (true :: ms) (.top i :: rs) s kb) (bindA ms rs s' fun svs s2 => kb (v :: svs) s2) := ⟨fun h => st_bind_tt h⟩
instance go_st_bind_td : StepTo (bindA (true :: ms) (.d x :: rs) s kb) (bindA ms rs s fun svs s2 => kb (.d x :: svs) s2) := ⟨fun h => st_bind_td h⟩
instance go_st_bind_to : StepTo (bindA (true :: ms) (.own v :: rs) s kb) (bindA ms rs s fun svs s2 => kb (v :: svs) s2) := ⟨fun h => st_bind_to h⟩
instance go_st_out_d {k : R → S → Prop} : StepTo (outR (.d x) s k) (k (.d x) s) := ⟨fun h => st_out_d h⟩
instance go_st_out_own {k : R → S → Prop} : StepTo (outR (.own v) s k) (k (.own v) s) := ⟨fun h => st_out_own h⟩
instance go_st_out_top {k : R → S → Prop} [g : Get s i v] [p : Put s i .no s'] : StepTo (outR (.top i) s k) (k (.own v) s') := ⟨fun h => st_out_top h⟩
variable {kl : List D → S → Prop} {fr : FA} {ds : List D} {n m : Int}
instance go_st_seqI : StepTo (iSeq a X s kl) (a X s fun r s1 => frz r s1 fun d s2 => match d with | .list xs => kl xs s2 | .tuple xs => kl xs s2 | _ => False) := ⟨fun h => st_seqI h⟩
instance go_st_range1 : StepTo (iRange1 fr X s kl) (fr X s fun rs s1 => match rs with | [.d (.int j)] => lim62 j ∧ kl (rangeD 0 j.toNat) s1 | _ => False) := ⟨fun h => st_range1 h⟩
instance go_st_range2 : StepTo (iRange2 fr X s kl) (fr X s fun rs s2 => match rs with | [.d (.int i), .d (.int j)] => lim62 i ∧ lim62 j ∧ kl (rangeD i (j - i).toNat) s2 | _ => False) := ⟨fun h => st_range2 h⟩
instance go_st_enum : StepTo (iEnum fr X s kl) (fr X s fun rs s1 => frzAll rs s1 fun ds s2 => match ds with
  | [.list xs] => kl (enumD xs) s2
  | [.tuple xs] => kl (enumD xs) s2
  | _ => False) := ⟨fun h => st_enum h⟩
instance go_st_zip : StepTo (iZip fr X s kl) (fr X s fun rs s1 => frzAll rs s1 fun ds s4 => match ds with
  | [.list xs, .list ys] => kl (zipD xs ys) s4
  | [.tuple xs, .list ys] => kl (zipD xs ys) s4
  | [.list xs, .tuple ys] => kl (zipD xs ys) s4
  | [.tuple xs, .tuple ys] => kl (zipD xs ys) s4
  | _ => False) := ⟨fun h => st_zip h⟩
instance go_st_nm {k : S → Prop} [p : Put s i (.d x) s'] : StepTo (gNm i x s k) (k s') := ⟨fun h => st_nm h⟩
instance go_st_tp {k : S → Prop} {fgs : List FG} : StepTo (gTp fgs (.tuple ds) s k) (gTp.gTps fgs ds s k) := ⟨fun h => st_tp h⟩
instance go_st_tps_nil {k : S → Prop} : StepTo (gTp.gTps [] [] s k) (k s) := ⟨fun h => st_tps_nil h⟩
instance go_st_tps_cons {k : S → Prop} {fg : FG} {fgs : List FG} : StepTo (gTp.gTps (fg :: fgs) (x :: ds) s k) (fg x s fun s1 => gTp.gTps fgs ds s1 k) := ⟨fun h => st_tps_cons h⟩
variable {k : R → Prop} {xs ys : List D}
instance go_st_add_i : StepTo (opAdd (.int n) (.int m) k) (k (.d (.int (n + m)))) := ⟨fun h => st_add_i h⟩
instance go_st_sub_i : StepTo (opSub (.int n) (.int m) k) (k (.d (.int (n - m)))) := ⟨fun h => st_sub_i h⟩
instance go_st_neg_i : StepTo (uNeg (.int n) k) (k (.d (.int (-n)))) := ⟨fun h => st_neg_i h⟩
instance go_st_eq_i : StepTo (cEq (.int n) (.int m) k) (k (.d (.bool (decide (n = m))))) := ⟨fun h => st_eq_i h⟩
instance go_st_ne_i : StepTo (cNe (.int n) (.int m) k) (k (.d (.bool (!decide (n = m))))) := ⟨fun h => st_ne_i h⟩
instance go_st_eq_b {p q : Bool} : StepTo (cEq (.bool p) (.bool q) k) (k (.d (.bool (p == q)))) := ⟨fun h => st_eq_b h⟩
instance go_st_ne_b {p q : Bool} : StepTo (cNe (.bool p) (.bool q) k) (k (.d (.bool (!(p == q))))) := ⟨fun h => st_ne_b h⟩
instance go_st_eq_str {p q : Str} : StepTo (cEq (.str p) (.str q) k) (k (.d (.bool (decide (p = q))))) := ⟨fun h => st_eq_str h⟩
instance go_st_ne_str {p q : Str} : StepTo (cNe (.str p) (.str q) k) (k (.d (.bool (!decide (p = q))))) := ⟨fun h => st_ne_str h⟩
instance go_st_lt_i : StepTo (cLt (.int n) (.int m) k) (k (.d (.bool (decide (n < m))))) := ⟨fun h => st_lt_i h⟩
instance go_st_le_i : StepTo (cLe (.int n) (.int m) k) (k (.d (.bool (decide (n ≤ m))))) := ⟨fun h => st_le_i h⟩
instance go_st_gt_i : StepTo (cGt (.int n) (.int m) k) (k (.d (.bool (decide (m < n))))) := ⟨fun h => st_gt_i h⟩
instance go_st_ge_i : StepTo (cGe (.int n) (.int m) k) (k (.d (.bool (decide (m ≤ n))))) := ⟨fun h => st_ge_i h⟩
instance go_st_is_n : StepTo (cIs x .none k) (k (.d (.bool (isNone x)))) := ⟨fun h => st_is_n h⟩
instance go_st_isNot_n : StepTo (cIsNot x .none k) (k (.d (.bool (!isNone x)))) := ⟨fun h => st_isNot_n h⟩
instance go_st_is_b {p q : Bool} : StepTo (cIs (.bool p) (.bool q) k) (k (.d (.bool (decide (p = q))))) := ⟨fun h => st_is_b h⟩
instance go_st_isNot_b {p q : Bool} : StepTo (cIsNot (.bool p) (.bool q) k) (k (.d (.bool (!decide (p = q))))) := ⟨fun h => st_isNot_b h⟩
instance go_st_len_l : StepTo (bLen [.list xs] k) (k (.d (.int (xs.length : Nat)))) := ⟨fun h => st_len_l h⟩
instance go_st_len_t : StepTo (bLen [.tuple xs] k) (k (.d (.int (xs.length : Nat)))) := ⟨fun h => st_len_t h⟩
instance go_st_len_lit {ns : List Int} : StepTo (bLen [litD ns] k) (k (.d (.int (ns.length : Nat)))) := ⟨fun h => st_len_lit h⟩
instance go_st_abs : StepTo (bAbs [.int n] k) (k (.d (.int (n.natAbs : Nat)))) := ⟨fun h => st_abs h⟩
instance go_st_max2 : StepTo (bMax2 [.int n, .int m] k) (k (.d (.int (max n m)))) := ⟨fun h => st_max2 h⟩
instance go_st_min2 : StepTo (bMin2 [.int n, .int m] k) (k (.d (.int (min n m)))) := ⟨fun h => st_min2 h⟩
instance go_st_int_i : StepTo (bInt [.int n] k) (k (.d (.int n))) := ⟨fun h => st_int_i h⟩
instance go_st_int_b {p : Bool} : StepTo (bInt [.bool p] k) (k (.d (.int (if p then 1 else 0)))) := ⟨fun h => st_int_b h⟩
instance go_st_tuple_l : StepTo (bTuple [.list xs] k) (k (.d (.tuple xs))) := ⟨fun h => st_tuple_l h⟩
instance go_st_tuple_t : StepTo (bTuple [.tuple xs] k) (k (.d (.tuple xs))) := ⟨fun h => st_tuple_t h⟩
instance go_st_list_l : StepTo (bList [.list xs] k) (k (.own (.l xs))) := ⟨fun h => st_list_l h⟩
instance go_st_list_t : StepTo (bList [.tuple xs] k) (k (.own (.l xs))) := ⟨fun h => st_list_t h⟩
instance go_st_sl_l {lo hi : Option Int} : StepTo (slD (.list xs) lo hi k) (k (.own (.l (slD.cutL xs lo hi)))) := ⟨fun h => st_sl_l h⟩
instance go_st_sl_t {lo hi : Option Int} : StepTo (slD (.tuple xs) lo hi k) (k (.d (.tuple (slD.cutL xs lo hi)))) := ⟨fun h => st_sl_t h⟩
end
end Hs
namespace Hs
open PySem PySem.Spec PyProof.Rows L2
/-- what is read stays readable -/
structure Lk (K : PySem.W.Frag) (Z Z' : Hp) : Prop where
  lst : ∀ a xs, Rd Z a (.lst xs) → Rd Z' a (.lst xs)
  dk : ∀ a ks, Rd Z a (.dK ks) → Rd Z' a (.dK ks)
  tup : ∀ a vs, Z a = some (.tup vs) → Z' a = some (.tup vs)
  dT : ∀ a ks, Rd Z a (.dT ks) → Rd Z' a (.dT ks)
  ext : ∀ a φ, Z a = some (.ext φ) → Z' a = some (.ext φ)
  ins : ∀ a C dx fs, Z a = some (.ins C dx fs) → Z' a = some (.ins C dx fs)
  ow : ∀ a x, Z a = some (.own x) → Z' a = some (.own x)
  fz : ∀ a ob vs, Z a = some (.frz ob (.tup vs)) → Z' a = some (.frz ob (.tup vs))
section
variable {K : PySem.W.Frag} {H H' : Hp}
theorem Lk.sq (e : Lk K H H') {a : Addr} {xs : List V} (h : SqL K H a xs) : SqL K H' a xs := by
  rcases h with h | h
  · exact .inl (e.lst _ _ h)
  · exact .inr h
mutual
theorem Rp.lkM (e : Lk K H H') : ∀ (d : PyData) (v : V), Rp K H v d → Rp K H' v d
  | .none, _, .non => .non
  | .bool _, _, .bl b => .bl b
  | .int _, _, .int i => .int i
  | .str _, _, .str x => .str x
  | .list ds, _, .lst h z a => .lst (e.lst _ _ h) z (RpAll.lkM e ds _ a)
  | .tuple ds, _, .tup h z a => .tup (e.tup _ _ h) z (RpAll.lkM e ds _ a)
  | .dict kvs, _, .dcK h a => .dcK (e.dk _ _ h) (RpK.lkM e kvs _ a)
  | .dict ((.none, .none) :: kvs), _, .dcT h a => .dcT (e.dT _ _ h) (RpT.lkM e kvs _ a)
  | _, _, .lit h z => .lit (e.sq h) z
  | _, _, .exc h => .exc (e.ext _ _ h)
  | _, _, .tf h c d z => .tf (e.fz _ _ _ h) c d z
  | .dict ((.none, .bool true) :: (.none, .str _) :: kvs), _, .obj h1 h2 a => .obj (e.ins _ _ _ _ h1) (e.ow _ _ h2) (RpK.lkM e kvs _ a)
theorem RpAll.lkM (e : Lk K H H') : ∀ (ds : List PyData) (vs : List V), RpAll K H vs ds → RpAll K H' vs ds
  | [], _, .nil => .nil
  | d :: ds, _, .cons h a => .cons (Rp.lkM e d _ h) (RpAll.lkM e ds _ a)
theorem RpK.lkM (e : Lk K H H') : ∀ (kvs : List (PyData × PyData)) (ks : List (Key × V)), RpK K H ks kvs → RpK K H' ks kvs
  | [], _, .nil => .nil
  | (_, d) :: kvs, _, .cons h a => .cons (Rp.lkM e d _ h) (RpK.lkM e kvs _ a)
theorem RpT.lkM (e : Lk K H H') : ∀ (kvs : List (PyData × PyData)) (ks : List (List Key × V)), RpT K H ks kvs → RpT K H' ks kvs
  | [], _, .nil => .nil
  | (_, d) :: kvs, _, .cons h a => .cons (Rp.lkM e d _ h) (RpT.lkM e kvs _ a)
end
end
section
variable {K : PySem.W.Frag} {Z Z' H H' : Hp}
theorem LL.lk (e : Lk K Z Z') : ∀ {qs : List Addr} {xss : List (List D)}, (∀ a ∈ qs, ∀ o, H a = some o → H' a = some o) → LL K Z H qs xss → LL K Z' H' qs xss
  | _, _, _, .nil => .nil
  | _, _, k, .cons h z a r => .cons (k _ List.mem_cons_self _ h) z (RpAll.lkM e _ _ a) (LL.lk e (fun b hb => k b (List.mem_cons_of_mem _ hb)) r)
theorem DcAt.lk {p : Addr} {kvs : List (D × D)} (e : Lk K Z Z') (kp : ∀ o, H p = some o → H' p = some o) (h : DcAt K Z H p kvs) : DcAt K Z' H' p kvs := by
  rcases h with ⟨ks, e1, r⟩ | ⟨ks, kvs', e0, e1, r⟩
  · exact .inl ⟨ks, kp _ e1, RpK.lkM e _ _ r⟩
  · exact .inr ⟨ks, kvs', e0, kp _ e1, RpT.lkM e _ _ r⟩
mutual
theorem PartAt.lk0 (e : Lk K Z Z') : ∀ (w : PV) {v : V} {F : List Addr}, (∀ a ∈ F, ∀ o, H a = some o → H' a = some o) → PartAt K Z H v w F → PartAt K Z' H' v w F
  | .d x, _, _, _, h => ⟨h.1, Rp.lkM e _ _ h.2⟩
  | .l xs, _, _, k, h => by
    obtain ⟨p, vs, h1, h2, h3, h4, h5⟩ := h
    exact ⟨p, vs, h1, h2, k p (by rw [h2]; exact List.mem_cons_self) _ h3, h4, RpAll.lkM e _ _ h5⟩
  | .dc kvs, _, _, k, h => by
    obtain ⟨p, h1, h2, h3⟩ := h
    exact ⟨p, h1, h2, h3.lk e (k p (by rw [h2]; exact List.mem_cons_self))⟩
  | .o c fs, _, _, k, h => by
    obtain ⟨p, dx, vs, G, h1, h2, h3, h4, h5⟩ := h
    exact ⟨p, dx, vs, G, h1, h2, k p (by rw [h2]; simp) _ h3, k dx (by rw [h2]; simp) _ h4, PsAt.lk0 e fs (fun a ha => k a (by rw [h2]; simp [ha])) h5⟩
theorem PsAt.lk0 (e : Lk K Z Z') : ∀ (fs : List (Str × PV)) {vs : List V} {F : List Addr}, (∀ a ∈ F, ∀ o, H a = some o → H' a = some o) → PsAt K Z H vs fs F → PsAt K Z' H' vs fs F
  | [], [], _, _, h => h
  | (n, w) :: fs, v :: vs, _, k, h => by
    obtain ⟨F1, F2, e1, h1, h2⟩ := h
    exact ⟨F1, F2, e1, PartAt.lk0 e w (fun a ha => k a (by rw [e1]; exact List.mem_append.mpr (.inl ha))) h1, PsAt.lk0 e fs (fun a ha => k a (by rw [e1]; exact List.mem_append.mpr (.inr ha))) h2⟩
  | [], _ :: _, _, _, h => h.elim
  | _ :: _, [], _, _, h => h.elim
end
theorem PartAt.lk {v : V} {w : PV} {F : List Addr} (e : Lk K Z Z') (k : ∀ a ∈ F, ∀ o, H a = some o → H' a = some o) (h : PartAt K Z H v w F) : PartAt K Z' H' v w F := PartAt.lk0 e w k h
theorem TpAt.lk (e : Lk K Z Z') {vs : List V} {ws : List PV} {F : List Addr} (h : TpAt K Z H vs ws F) (k : ∀ a ∈ F, ∀ o, H a = some o → H' a = some o) : TpAt K Z' H' vs ws F := by
  induction h with
  | nil => exact .nil
  | cons h r ih => exact .cons (h.lk e fun a ha => k a (List.mem_append_left _ ha)) (ih fun a ha => k a (List.mem_append_right _ ha))
theorem SlotAt.lk {v : Option V} {sv : SV} {F : List Addr} (e : Lk K Z Z') (k : ∀ a ∈ F, ∀ o, H a = some o → H' a = some o) (h : SlotAt K Z H v sv F) : SlotAt K Z' H' v sv F := by
  cases sv with
  | no => exact h
  | d x =>
    obtain ⟨h1, u, h2, r⟩ := h
    exact ⟨h1, u, h2, Rp.lkM e _ _ r⟩
  | l xs =>
    obtain ⟨p, vs, h1, h2, h3, h4, h5⟩ := h
    exact ⟨p, vs, h1, h2, k p (by rw [h2]; exact List.mem_cons_self) _ h3, h4, RpAll.lkM e _ _ h5⟩
  | ll xss =>
    obtain ⟨p, qs, h1, h2, h3, h4, h5⟩ := h
    exact ⟨p, qs, h1, h2, k p (by rw [h2]; exact List.mem_cons_self) _ h3, h4, h5.lk e fun a ha => k a (by rw [h2]; exact List.mem_cons_of_mem _ ha)⟩
  | dc kvs =>
    obtain ⟨p, h1, h2, h3⟩ := h
    exact ⟨p, h1, h2, h3.lk e (k p (by rw [h2]; exact List.mem_cons_self))⟩
  | ob c fs =>
    obtain ⟨p, dx, vs, G, h1, h2, h3, h4, h5⟩ := h
    exact ⟨p, dx, vs, G, h1, h2, k p (by rw [h2]; simp) _ h3, k dx (by rw [h2]; simp) _ h4, h5.lk e fun a ha => k a (by rw [h2]; simp [ha])⟩
  | tp ws =>
    obtain ⟨p, vs, h1, h3, h4, h5⟩ := h
    exact ⟨p, vs, h1, e.tup _ _ h3, h4, h5.lk e k⟩
  | lo ws =>
    obtain ⟨p, vs, G, h1, h2, h3, h4, h5⟩ := h
    exact ⟨p, vs, G, h1, h2, k p (by rw [h2]; simp) _ h3, h4, h5.lk e fun a ha => k a (by rw [h2]; simp [ha])⟩
/-- the thing at d stands otherwise, nothing else does -/
theorem Rel.lk {Y Z1 H1 : Hp} {σ : St} {s : S} {d : Addr} (r : Rel K Z Y H σ s) (e : Lk K Z Z1) (hd : Z d ≠ none) (hz : ∀ a, a ≠ d → Z1 a = Z a) (hh : ∀ a, a ≠ d → H1 a = H a) (hzd : Z1 d = H1 d) : Rel K Z1 Y H1 σ s := by
  obtain ⟨F, o⟩ := r.own
  have yd : Y d = none := r.zy d hd
  have fd : ∀ i, ∀ a ∈ F i, a ≠ d := fun i a ha q => hd (by rw [← q]; exact (o.fr i a ha).1)
  refine ⟨fun a q e1 => ?_, fun a q e1 => ?_, fun a ha => ?_, r.yt, r.len, F, fun i => (o.at_ i).lk e fun a ha ob e1 => by rw [hh a (fd i a ha)]; exact e1, o.nd, o.dj, fun i a ha => ⟨by rw [hz a (fd i a ha)]; exact (o.fr i a ha).1, (o.fr i a ha).2⟩⟩
  · by_cases h : a = d
    · subst h; rw [← hzd]; exact e1
    · rw [hz a h] at e1
      rw [hh a h]
      exact r.zh a q e1
  · have h : a ≠ d := fun h => by rw [h, yd] at e1; cases e1
    rw [hh a h]
    exact r.yh a q e1
  · by_cases h : a = d
    · rw [h]; exact yd
    · rw [hz a h] at ha
      exact r.zy a ha
theorem lk_lockT {d : Addr} {o : Obj} {ks : List (List Key × V)} (h : Z d = some (.dT ks)) : Lk K Z (upd Z d (.frz o (.dT ks))) where
  lst := fun a xs hu => by
    have e : a ≠ d := fun e => by
      subst e
      rcases hu with hu | ⟨o', hu⟩ <;> (rw [h] at hu; cases hu)
    rcases hu with hu | ⟨o', hu⟩
    · exact .inl (by rw [upd_ne e]; exact hu)
    · exact .inr ⟨o', by rw [upd_ne e]; exact hu⟩
  dT := fun a u hu => by
    by_cases e : a = d
    · subst e
      rcases hu with hu | ⟨o', hu⟩
      · rw [h] at hu
        cases hu
        exact .inr ⟨o, upd_same⟩
      · rw [h] at hu
        cases hu
    · rcases hu with hu | ⟨o', hu⟩
      · exact .inl (by rw [upd_ne e]; exact hu)
      · exact .inr ⟨o', by rw [upd_ne e]; exact hu⟩
  tup := fun a vs hu => by rw [upd_ne (fun e => by rw [e, h] at hu; cases hu)]; exact hu
  dk := fun a ks' hu => by
    have e : a ≠ d := fun e => by
      subst e
      rcases hu with hu | ⟨o', hu⟩ <;> (rw [h] at hu; cases hu)
    rcases hu with hu | ⟨o', hu⟩
    · exact .inl (by rw [upd_ne e]; exact hu)
    · exact .inr ⟨o', by rw [upd_ne e]; exact hu⟩
  ext := fun a φ hu => by rw [upd_ne (fun e => by rw [e, h] at hu; cases hu)]; exact hu
  ins := fun a C dx fs hu => by rw [upd_ne (fun e => by rw [e, h] at hu; cases hu)]; exact hu
  ow := fun a x hu => by rw [upd_ne (fun e => by rw [e, h] at hu; cases hu)]; exact hu
  fz := fun a ob vs hu => by rw [upd_ne (fun e => by rw [e, h] at hu; cases hu)]; exact hu
theorem lk_unlockT {d : Addr} {o : Obj} {ks : List (List Key × V)} (h : Z d = some (.frz o (.dT ks))) : Lk K Z (upd Z d (.dT ks)) where
  lst := fun a xs hu => by
    have e : a ≠ d := fun e => by
      subst e
      rcases hu with hu | ⟨o', hu⟩ <;> (rw [h] at hu; cases hu)
    rcases hu with hu | ⟨o', hu⟩
    · exact .inl (by rw [upd_ne e]; exact hu)
    · exact .inr ⟨o', by rw [upd_ne e]; exact hu⟩
  dT := fun a u hu => by
    by_cases e : a = d
    · subst e
      rcases hu with hu | ⟨o', hu⟩
      · rw [h] at hu
        cases hu
      · rw [h] at hu
        cases hu
        exact .inl upd_same
    · rcases hu with hu | ⟨o', hu⟩
      · exact .inl (by rw [upd_ne e]; exact hu)
      · exact .inr ⟨o', by rw [upd_ne e]; exact hu⟩
  tup := fun a vs hu => by rw [upd_ne (fun e => by rw [e, h] at hu; cases hu)]; exact hu
  dk := fun a ks' hu => by
    have e : a ≠ d := fun e => by
      subst e
      rcases hu with hu | ⟨o', hu⟩ <;> (rw [h] at hu; cases hu)
    rcases hu with hu | ⟨o', hu⟩
    · exact .inl (by rw [upd_ne e]; exact hu)
    · exact .inr ⟨o', by rw [upd_ne e]; exact hu⟩
  ext := fun a φ hu => by rw [upd_ne (fun e => by rw [e, h] at hu; cases hu)]; exact hu
  ins := fun a C dx fs hu => by rw [upd_ne (fun e => by rw [e, h] at hu; cases hu)]; exact hu
  ow := fun a x hu => by rw [upd_ne (fun e => by rw [e, h] at hu; cases hu)]; exact hu
  fz := fun a ob vs hu => by rw [upd_ne (fun e => by rw [e, h] at hu; cases hu)]; exact hu
theorem RpK.at {Z : Hp} : ∀ {ks : List (Key × V)} {kvs : List (D × D)} {i : Nat} {k : Key} {v : V}, RpK K Z ks kvs → ks[i]? = some (k, v) → (kvs.map (·.1))[i]? = some (keyD k)
  | _, _, i, k, v, .nil, e => by simp at e
  | _, _, 0, k, v, .cons h r, e => by
    cases e
    rfl
  | _, _, i + 1, k, v, .cons h r, e => RpK.at (i := i) r e
theorem rp_key (k : Key) : Rp K Z (kV k) (keyD k) := by
  cases k with
  | inl i => exact .int i
  | inr x => exact .str x
end
section
variable {K : PySem.W.Frag} {Z Z' H H' : Hp}
theorem RpT.at {Z : Hp} : ∀ {ks : List (List Key × V)} {kvs : List (D × D)} {i : Nat} {k : List Key} {v : V}, RpT K Z ks kvs → ks[i]? = some (k, v) → (kvs.map (·.1))[i]? = some (keysD k)
  | _, _, i, k, v, .nil, e => by simp at e
  | _, _, 0, k, v, .cons h r, e => by
    cases e
    rfl
  | _, _, i + 1, k, v, .cons h r, e => RpT.at (i := i) r e
theorem rp_keys : ∀ k : List Key, RpAll K Z (k.map kV) (k.map keyD)
  | [] => .nil
  | k :: ks => .cons (rp_key k) (rp_keys ks)
theorem walks_keysT {d : Addr} {o : Obj} {ks : List (List Key × V)} {kvs : List (D × D)} (hl : ks.length = kvs.length) (h : Z d = some (.frz o (.dT ks))) (sz : ∀ k v, (k, v) ∈ ks → k.length ≤ sizeLine) (r : RpT K Z ks kvs) : Walks K Z (Itkt d o ks) (kvs.map (·.1)) where
  stop := fun i H e hi => ⟨e _ _ h, by rw [hl]; rw [List.length_map] at hi; exact hi⟩
  go := fun i H e hi => ⟨e _ _ h, by rw [hl]; rw [List.length_map] at hi; exact hi⟩
  yld := fun i H v H' Zc e1 e2 hi ⟨eh, k, w, q, hk, hv, hq⟩ => by
    subst eh hv
    let Z2 : Hp := fun a => if a = q then H' q else Zc a
    refine ⟨keysD k, Z2, r.at hk, ⟨Same.refl _, fun a u ea => ?_, fun a u ea => ?_, fun a ha => ?_, ?_⟩⟩
    · show (if a = q then H' q else Zc a) = some u
      split
      · rename_i c; rw [← c]; exact e2 _ _ ea
      · exact ea
    · have ea : (if a = q then H' q else Zc a) = some u := ea
      split at ea
      · rename_i c; rw [c]; exact ea
      · exact e2 _ _ ea
    · show (if a = q then H' q else Zc a) = Zc a ∨ _
      split
      · rename_i c; rw [c]; exact .inr ⟨_, hq⟩
      · exact .inl rfl
    · show Rp K Z2 (.ref q) (keysD k)
      refine .tup (show (if q = q then H' q else Zc q) = _ by rw [if_pos rfl]; exact hq) ?_ (rp_keys k)
      rw [List.length_map]
      exact sz k w (List.mem_of_getElem? hk)
end
section
variable {X : Cx} {L : Lv} {fg : FG} {wp ws : List Nat} {f1 : FS} {pos px : Pos} {x : Str} {body : List Stmt} {tg : Expr}
theorem loop_core {J : It} {Z Y H : Hp} {σ : St} {s1 : S} {xs : List D} {Ef : FEnds} {D0 : Ends} (rl : Rel X.K Z Y H σ s1) (k : L.keeps σ) (eo : EndsOk X L Z Y Ef D0) (wk : Walks X.K Z J xs) (hloop : fLoop fg wp f1 Ef xs (wipeS s1 wp)) :
    ∃ W : Nat → Nat → St → Hp → Prop, (∃ m, W 0 m σ H) ∧ ∀ i m σ H, W i m σ H →
      (J.stop i H ∧ D0.nx σ H) ∨ (J.go i H ∧ ∃ N : St → Hp → Prop, (∀ σ' H', N σ' H' → ∃ m', m' < m ∧ W (i + 1) m' σ' H') ∧ ∀ x H', J.yld i H x H' → liftG X L ws fg x σ H' fun σ2 H2 => liftS X L f1 { D0 with nx := N, ct := N, bk := D0.nx } σ2 H2) := by
  refine ⟨fun i m σ' H' => ∃ Z' s', Same Z Z' ∧ Rel X.K Z' Y H' σ' s' ∧ L.keeps σ' ∧ m = xs.length - i ∧ i ≤ xs.length ∧ fLoop fg wp f1 Ef (xs.drop i) s', ⟨xs.length, Z, _, Same.refl _, rl.wipeS wp, k, rfl, Nat.zero_le _, hloop⟩, ?_⟩
  rintro i m σ' H' ⟨Z', s', hz', r', k', rfl, hle, hl⟩
  by_cases hlt : i < xs.length
  · refine .inr ⟨wk.go i H' (hz'.trans r'.zh) hlt, fun σ2 H2 => ∃ Z2 s2, Same Z' Z2 ∧ Rel X.K Z2 Y H2 σ2 s2 ∧ L.keeps σ2 ∧ fLoop fg wp f1 Ef (xs.drop (i + 1)) (wipeS s2 wp), fun σ2 H2 ⟨Z2, s2, hz2, r2, k2, h2⟩ => ⟨xs.length - (i + 1), by omega, Z2, _, hz'.trans hz2, r2.wipeS wp, k2, rfl, hlt, h2⟩, fun x H2 hy => ?_⟩
    obtain ⟨d, Z2, hd, n⟩ := wk.yld i H' x H2 Z' hz' r'.zh hlt hy
    have ed : xs.drop i = d :: xs.drop (i + 1) := by
      obtain ⟨h1, h2⟩ := List.getElem?_eq_some_iff.mp hd
      rw [List.drop_eq_getElem_cons hlt, h2]
    rw [ed] at hl
    have r2 : Rel X.K Z2 Y H2 σ' s' := r'.growE n.hh n.hz n.zh n.old
    refine ⟨Z2, Y, s', d, _, r2, k', n.val, hl, fun σ3 s3 k3 _ r3 h3 => ?_⟩
    refine ⟨Z2, Y, s3, _, r3, k3, h3, ⟨fun σ4 H4 Z4 s4 hz4 k4 r4 h4 => ⟨Z4, s4, n.hz.trans hz4, r4, k4, h4⟩, fun v σ4 H4 Z4 r0 s4 hz4 k4 rx4 h4 => eo.rt v σ4 H4 Z4 r0 s4 ((hz'.trans n.hz).trans hz4) k4 rx4 h4,
      fun σ4 H4 Z4 s4 hz4 k4 r4 h4 => eo.nx σ4 H4 Z4 _ ((hz'.trans n.hz).trans hz4) k4 (r4.wipeS wp) h4, fun σ4 H4 Z4 s4 hz4 k4 r4 h4 => ⟨Z4, s4, n.hz.trans hz4, r4, k4, h4⟩, eo.xx.z (hz'.trans n.hz)⟩⟩
  · have ei : i = xs.length := by omega
    subst ei
    rw [List.drop_length] at hl
    exact .inl ⟨wk.stop _ H' (hz'.trans r'.zh) (Nat.le_refl _), eo.nx σ' H' Z' s' hz' k' r' hl⟩
theorem PS_or {st : Stmt} {t u : TS} (h1 : PS X st t) (h2 : PS X st u) : PS X st (fun D σ H => t D σ H ∨ u D σ H) := ⟨fun pins s σ H D I h => h.elim (h1.run pins s σ H D I) (h2.run pins s σ H D I)⟩
end
theorem call_len_dTR {X : Cx} : CallR X (.builtin "len") (fun xs H Q => ∃ (p : Addr) (kvs : List (List Key × V)), xs = [V.ref p] ∧ Rd H p (.dT kvs) ∧ Q (.int ((kvs.length : Nat) : Int)) H) := by
  intro pins s σ H xs us Q I r h
  obtain ⟨p, kvs, rfl, hp, q⟩ := h
  obtain ⟨u, rfl, rx⟩ := vals1 r
  obtain rfl : u = .ref p := rx
  obtain ⟨z, hd, ys, rel, dd⟩ := dt_rd I.hok hp
  have hl : kvs.length = ys.length := Paired.length rel
  refine call_len_dictH hd dd (by rw [← hl]; rw [sizeLine_eq] at z; omega) ?_
  rw [← hl]
  exact ⟨.int ((kvs.length : Nat) : Int), H, I.tok _, ⟨_, rfl⟩, q⟩
def bLen2 : VN := fun ds Q => bLen ds Q ∨ ∃ kvs, ds = [.dict kvs] ∧ match kvs with
  | (.none, .none) :: r => Q (.d (.int (r.length : Nat)))
  | (.none, _) :: _ => False
  | kvs => Q (.d (.int (kvs.length : Nat)))
theorem fb_len2 {X : Cx} : CallR X (.builtin "len") (rFN X.K bLen2) := by
  intro pins s σ H vs us Q I rv ⟨Z, ds, Qf, hz, rr, g, q⟩
  rcases g with g | ⟨kvs, rfl, g⟩
  · exact fb_len pins s σ H vs us Q I rv ⟨Z, ds, Qf, hz, rr, g, q⟩
  · obtain ⟨v, rfl, r1⟩ := rr.one
    obtain ⟨u, rfl, ru⟩ := vals1 rv
    rcases r1.dict hz with ⟨p, ks, rfl, hp, r⟩ | ⟨p, ks, kvs', rfl, rfl, hp, r⟩ | ⟨x0, r, rfl, hxn⟩
    · split at g
      · exact r.mark.elim
      · exact r.mark.elim
      · cases ru
        exact d_len I hp fun t s' I' => ⟨.int ks.length, H, I', ⟨t, rfl⟩, by rw [r.length]; exact q _ H Z _ (.d hz (.int _)) g⟩
    · exact call_len_dTR pins s σ H _ _ Q I rv ⟨p, ks, rfl, hp, by rw [r.length]; exact q _ H Z _ (.d hz (.int _)) g⟩
    · split at g
      · rename_i e1
        cases e1
        exact (hxn rfl).elim
      · exact g.elim
      · rename_i h1 h2
        exact (h2 _ _ rfl).elim
theorem st_len2_T {kvs : List (D × D)} {k : R → Prop} (h : k (.d (.int (kvs.length : Nat)))) : bLen2 [.dict ((.none, .none) :: kvs)] k := .inr ⟨_, rfl, h⟩
end Hs
namespace Hs
open PySem
section
variable {X : XF} {s : S} {Q : R → S → Prop} {fa fb : FE} {n m : Int} {k : R → Prop} {xs ys : List D} {x y : D}
theorem st_rg1 {mk : List D → R} (h : fa X s fun r s1 => match r with | .d (.int j) => L2.RgOk 0 j ∧ Q (mk (rangeD 0 j.toNat)) s1 | _ => False) : fRg1 mk fa X s Q := h
theorem st_rg2 {mk : List D → R} (h : fa X s fun r1 s1 => fb X s1 fun r2 s2 => match r1, r2 with | .d (.int i), .d (.int j) => L2.RgOk i j ∧ Q (mk (rangeD i (j - i).toNat)) s2 | _, _ => False) : fRg2 mk fa fb X s Q := h
theorem st_enumL {fr : FA} {kl : List D → S → Prop} (h : fr X s fun rs s1 => frzAll rs s1 fun ds s2 => match ds with
  | [.list xs] => kl (enumD xs) s2
  | [.tuple xs] => kl (enumD xs) s2
  | _ => False) : iEnumL fr X s kl := h
theorem st_zipS {fr : FA} {kl : List D → S → Prop} (h : fr X s fun rs s1 => frzAll rs s1 fun ds s4 => match ds with
  | [.list xs, .list ys] => kl (zipD xs ys) s4
  | [.tuple xs, .tuple ys] => kl (zipD xs ys) s4
  | _ => False) : iZipS fr X s kl := h
theorem st_rev_l (h : k (.own (.l xs.reverse))) : revD (.list xs) k := h
theorem st_rev_t (h : k (.d (.tuple xs.reverse))) : revD (.tuple xs) k := h
theorem st_in_t (z1 : SeqAt.shaped x = true) (z2 : SeqAt.shaped (.tuple xs) = true) (h : k (.d (.bool (xs.any fun z => PyData.eqv z x)))) : cIn x (.tuple xs) k := ⟨z1, z2, h⟩
theorem st_in_l (z1 : SeqAt.shaped x = true) (z2 : SeqAt.shaped (.list xs) = true) (h : k (.d (.bool (xs.any fun z => PyData.eqv z x)))) : cIn x (.list xs) k := ⟨z1, z2, h⟩
theorem st_notIn_t (z1 : SeqAt.shaped x = true) (z2 : SeqAt.shaped (.tuple xs) = true) (h : k (.d (.bool (!xs.any fun z => PyData.eqv z x)))) : cNotIn x (.tuple xs) k := ⟨z1, z2, h⟩
theorem st_notIn_l (z1 : SeqAt.shaped x = true) (z2 : SeqAt.shaped (.list xs) = true) (h : k (.d (.bool (!xs.any fun z => PyData.eqv z x)))) : cNotIn x (.list xs) k := ⟨z1, z2, h⟩
theorem st_lt_t {ns ms : List Int} (e1 : intsOf xs = some ns) (e2 : intsOf ys = some ms) (h : k (.d (.bool (HT.lexLt ns ms)))) : cLt (.tuple xs) (.tuple ys) k := by
  show (match intsOf xs, intsOf ys with | some ns, some ms => k (.d (.bool (HT.lexLt ns ms))) | _, _ => False)
  rw [e1, e2]; exact h
end
/-- all of truths -/
theorem st_all_true {k : R → Prop} {xs : List D} (h : k (.d (.bool true))) : bAll [.list (xs.map fun _ => .bool true)] k := by
  refine st_all (bs := xs.map fun _ => true) (by simp) ?_
  rw [show (xs.map fun _ => true).all id = true by simp]
  exact h
/-- a comprehension all of whose items are true -/
theorem comp_true {X : XF} {fg : FG} {wp : List Nat} {e : FE} {Q : R → S → Prop} {s : S} {xs : List D} (hs : ∀ x, x ∈ xs → ∀ (kT : D → S → Prop), kT (.bool true) s → fg x s fun s1 => e X s1 fun r s3 => frz r s3 fun d s4 => kT d (wipeS s4 wp)) (h : Q (.own (.l (xs.map fun _ => .bool true))) s) :
    fComp X fg wp fYes e Q xs [] s := comp_all (fun _ => .bool true) xs [] hs (by simpa using h)
/-- a comprehension that changes the state -/
theorem comp_inv {X : XF} {fg : FG} {wp : List Nat} {t : FT} {e : FE} {Q : R → S → Prop} (I : List D → List D → S → Prop) (hend : ∀ acc s, I [] acc s → Q (.own (.l acc)) s)
    (hstep : ∀ x xs acc s (kT : D → S → Prop) (kF : S → Prop), I (x :: xs) acc s → (∀ d s', I xs (acc ++ [d]) s' → kT d s') → (∀ s', I xs acc s' → kF s') → fg x s fun s1 => t X s1 fun b s2 => if b = true then e X s2 fun r s3 => frz r s3 fun d s4 => kT d (wipeS s4 wp) else kF (wipeS s2 wp)) :
    ∀ xs acc s, I xs acc s → fComp X fg wp t e Q xs acc s
  | [], acc, s, h => hend acc s h
  | x :: xs, acc, s, h => hstep x xs acc s (fun d s4 => fComp X fg wp t e Q xs (acc ++ [d]) s4) (fun s4 => fComp X fg wp t e Q xs acc s4) h (fun d s' h' => comp_inv I hend hstep xs _ s' h') fun s' h' => comp_inv I hend hstep xs _ s' h'
/-- a tuple of whole numbers -/
def IntT (m : Nat) (d : D) : Prop := ∃ ks : List Int, d = .tuple (ks.map .int) ∧ ks.length ≤ m
theorem IntT.cut {m : Nat} {ks : List Int} {lo hi : Option Int} (h : ks.length ≤ m) : ∃ ls : List Int, slD.cutL (ks.map PyData.int) lo hi = ls.map PyData.int ∧ ls.length ≤ m := by
  unfold slD.cutL
  rw [List.length_map, ← List.map_drop, ← List.map_take]
  exact ⟨_, rfl, by rw [List.length_take, List.length_drop]; omega⟩
theorem comp_list {α : Type} {X : XF} {fg : FG} {wp : List Nat} {e : FE} {Q : R → S → Prop} {s : S} (g f : α → D) (l : List α) (hs : ∀ a, a ∈ l → ∀ (kT : D → S → Prop), kT (f a) s → fg (g a) s fun s1 => e X s1 fun r s3 => frz r s3 fun d s4 => kT d (wipeS s4 wp)) (h : Q (.own (.l (l.map f))) s) :
    fComp X fg wp fYes e Q (l.map g) [] s := by
  have go : ∀ (l : List α) (acc : List D), (∀ a, a ∈ l → ∀ (kT : D → S → Prop), kT (f a) s → fg (g a) s fun s1 => e X s1 fun r s3 => frz r s3 fun d s4 => kT d (wipeS s4 wp)) → Q (.own (.l (acc ++ l.map f))) s → fComp X fg wp fYes e Q (l.map g) acc s := by
    intro l
    induction l with
    | nil =>
      intro acc _ h
      have h : Q (.own (.l (acc ++ []))) s := h
      rw [List.append_nil] at h
      exact h
    | cons a l ih =>
      intro acc hs h
      exact hs a List.mem_cons_self (fun d s4 => fComp X fg wp fYes e Q (l.map g) (acc ++ [d]) s4) (ih _ (fun b hb => hs b (List.mem_cons_of_mem _ hb)) (by simpa using h))
  exact go l [] hs (by simpa using h)
theorem comp_filter {α : Type} {X : XF} {fg : FG} {wp : List Nat} {t : FT} {e : FE} {Q : R → S → Prop} {s : S} (g f : α → D) (p : α → Bool) (l : List α)
    (hs : ∀ a, a ∈ l → ∀ (kT : D → S → Prop) (kF : S → Prop), (p a = true → kT (f a) s) → (p a = false → kF s) → fg (g a) s fun s1 => t X s1 fun b s2 => if b = true then e X s2 fun r s3 => frz r s3 fun d s4 => kT d (wipeS s4 wp) else kF (wipeS s2 wp)) (h : Q (.own (.l ((l.filter p).map f))) s) :
    fComp X fg wp t e Q (l.map g) [] s := by
  have go : ∀ (l : List α) (acc : List D), (∀ a, a ∈ l → ∀ (kT : D → S → Prop) (kF : S → Prop), (p a = true → kT (f a) s) → (p a = false → kF s) → fg (g a) s fun s1 => t X s1 fun b s2 => if b = true then e X s2 fun r s3 => frz r s3 fun d s4 => kT d (wipeS s4 wp) else kF (wipeS s2 wp)) →
      Q (.own (.l (acc ++ (l.filter p).map f))) s → fComp X fg wp t e Q (l.map g) acc s := by
    intro l
    induction l with
    | nil =>
      intro acc _ h
      have h : Q (.own (.l (acc ++ []))) s := h
      rw [List.append_nil] at h
      exact h
    | cons a l ih =>
      intro acc hs h
      refine hs a List.mem_cons_self (fun d s4 => fComp X fg wp t e Q (l.map g) (acc ++ [d]) s4) (fun s4 => fComp X fg wp t e Q (l.map g) acc s4) (fun q => ?_) (fun q => ?_)
      · exact ih _ (fun b hb => hs b (List.mem_cons_of_mem _ hb)) (by rw [List.filter_cons_of_pos (by simp [q])] at h; simpa using h)
      · exact ih _ (fun b hb => hs b (List.mem_cons_of_mem _ hb)) (by rw [List.filter_cons_of_neg (by simp [q])] at h; exact h)
  exact go l [] hs (by simpa using h)
theorem st_all_map {α : Type} {l : List α} {b : α → Bool} {k : R → Prop} (h : k (.d (.bool (l.all b)))) : bAll [.list (l.map fun a => .bool (b a))] k := by
  refine st_all (bs := l.map b) (by simp) ?_
  rw [List.all_map]
  exact h
theorem st_any_map {α : Type} {l : List α} {b : α → Bool} {k : R → Prop} (h : k (.d (.bool (l.any b)))) : bAny [.list (l.map fun a => .bool (b a))] k := by
  refine st_any (bs := l.map b) (by simp) ?_
  rw [List.any_map]
  exact h
theorem loop_list {α : Type} {nx bk ct : S → Prop} {rt : R → S → Prop} {xx : XF} {f1 : FS} {fg : FG} {wp : List Nat} (g : α → D) (I : List α → S → Prop) (hend : ∀ s, I [] s → nx s)
    (hstep : ∀ a l s (k : S → Prop), I (a :: l) s → (∀ s', I l s' → k s') → fg (g a) s fun s1 => f1 ⟨fun s2 => k (wipeS s2 wp), rt, fun s2 => wipeK s2 wp nx, fun s2 => k (wipeS s2 wp), xx⟩ s1) : ∀ l s, I l s → fLoop fg wp f1 ⟨nx, rt, bk, ct, xx⟩ (l.map g) s
  | [], s, h => hend s h
  | a :: l, s, h => hstep a l s (fLoop fg wp f1 ⟨nx, rt, bk, ct, xx⟩ (l.map g)) h fun s' h' => loop_list g I hend hstep l s' h'
theorem st_ne_lit {ns : List Int} {k : R → Prop} (h : k (.d (.bool (decide (0 < ns.length))))) : cNe (litD ns) (.list []) k := by
  have one : ∀ ns : List Int, PyData.canLayAll0 (ns.map PyData.int) = true ∧ PyData.depthAll (ns.map PyData.int) ≤ 1 := by
    intro ns
    induction ns with
    | nil => exact ⟨rfl, by show (0 : Nat) ≤ 1; decide⟩
    | cons n ns ih =>
      refine ⟨?_, ?_⟩
      · show ((PyData.int n).canLay0 && PyData.canLayAll0 (ns.map PyData.int)) = true
        rw [ih.1]; rfl
      · show max ((PyData.int n).depth) (PyData.depthAll (ns.map PyData.int)) ≤ 1
        have h2 : (PyData.int n).depth ≤ 1 := by simp [PyData.depth]
        have h3 := ih.2
        omega
  obtain ⟨o1, o2⟩ := one ns
  refine st_ne (x := litD ns) ?_ rfl ?_
  · show SeqAt.shaped (.list (ns.map PyData.int)) = true
    unfold SeqAt.shaped
    rw [show (PyData.list (ns.map PyData.int)).canLay0 = PyData.canLayAll0 (ns.map PyData.int) from by simp [PyData.canLay0], o1]
    simp [PyData.depth]
    omega
  · show k (.d (.bool (!PyData.eqvAll (ns.map PyData.int) [])))
    cases ns with
    | nil => exact h
    | cons n ns => simpa [PyData.eqvAll] using h
theorem shaped_int {i : Int} : SeqAt.shaped (.int i) = true := rfl
theorem canLay_pairs : ∀ ts : List (Int × Int), PyData.canLayAll0 (ts.map pairD) = true
  | [] => rfl
  | t :: ts => by
    show ((pairD t).canLay0 && PyData.canLayAll0 (ts.map pairD)) = true
    rw [canLay_pairs ts]; rfl
theorem depth_pairs : ∀ ts : List (Int × Int), PyData.depthAll (ts.map pairD) ≤ 2
  | [] => by show (0 : Nat) ≤ 2; decide
  | t :: ts => by
    show max ((pairD t).depth) (PyData.depthAll (ts.map pairD)) ≤ 2
    have h := depth_pairs ts
    have h2 : (pairD t).depth ≤ 2 := by unfold pairD; simp [PyData.depth, PyData.depthAll]
    omega
theorem shaped_pairD {p : Int × Int} : SeqAt.shaped (pairD p) = true := rfl
theorem shaped_pairs {ts : List (Int × Int)} : SeqAt.shaped (.tuple (ts.map pairD)) = true := by
  unfold SeqAt.shaped
  rw [show (PyData.tuple (ts.map pairD)).canLay0 = PyData.canLayAll0 (ts.map pairD) from by simp [PyData.canLay0], canLay_pairs]
  have h := depth_pairs ts
  simp [PyData.depth]
  omega
theorem shaped_pairsL {ts : List (Int × Int)} : SeqAt.shaped (.list (ts.map pairD)) = true := by
  unfold SeqAt.shaped
  rw [show (PyData.list (ts.map pairD)).canLay0 = PyData.canLayAll0 (ts.map pairD) from by simp [PyData.canLay0], canLay_pairs]
  have h := depth_pairs ts
  simp [PyData.depth]
  omega
theorem eqv_pair {p q : Int × Int} : PyData.eqv (pairD p) (pairD q) = decide (p = q) := by
  obtain ⟨a, b⟩ := p
  obtain ⟨c, d⟩ := q
  simp only [pairD, PyData.eqv, PyData.eqvAll, Prod.mk.injEq, Bool.and_true]
  by_cases h1 : a = c <;> by_cases h2 : b = d <;> simp [h1, h2]
theorem any_pair {ts : List (Int × Int)} {p : Int × Int} : ((ts.map pairD).any fun z => PyData.eqv z (pairD p)) = decide (p ∈ ts) := by
  rw [List.any_map]
  apply Bool.eq_iff_iff.mpr
  simp only [List.any_eq_true, Function.comp, eqv_pair, decide_eq_true_eq]
  constructor
  · rintro ⟨q, h, rfl⟩; exact h
  · intro h; exact ⟨p, h, rfl⟩
theorem st_in_pt {ts : List (Int × Int)} {a b : Int} {k : R → Prop} (h : k (.d (.bool (decide ((a, b) ∈ ts))))) : cIn (.tuple [.int a, .int b]) (.tuple (ts.map pairD)) k := by
  refine st_in_t (shaped_pairD (p := (a, b))) shaped_pairs ?_
  rw [show (PyData.tuple [.int a, .int b]) = pairD (a, b) from rfl, any_pair]
  exact h
theorem st_in_pl {ts : List (Int × Int)} {a b : Int} {k : R → Prop} (h : k (.d (.bool (decide ((a, b) ∈ ts))))) : cIn (.tuple [.int a, .int b]) (.list (ts.map pairD)) k := by
  refine st_in_l (shaped_pairD (p := (a, b))) shaped_pairsL ?_
  rw [show (PyData.tuple [.int a, .int b]) = pairD (a, b) from rfl, any_pair]
  exact h
/-- a web -/
abbrev webD (n : Int) (ts : List (Int × Int)) : D := .tuple [.int n, .tuple (ts.map pairD)]
structure Good (n : Int) (ts : List (Int × Int)) : Prop where
  n0 : 0 ≤ n
  n10 : n ≤ 10
  ties : ∀ p ∈ ts, 0 ≤ p.1 ∧ p.1 < p.2 ∧ p.2 < n
  up : ts.Pairwise (fun p q => ltPr p q = true)
  few : ts.length ≤ 1000
theorem lex_pair {p q : Int × Int} : HT.lexLt [p.1, p.2] [q.1, q.2] = ltPr p q := by
  unfold ltPr
  rw [HT.lexLt_cons]
  by_cases h : p.1 = q.1
  · rw [if_pos h, h, HT.lexLt_cons]
    by_cases h2 : p.2 = q.2
    · rw [if_pos h2, h2]; simp [HT.lexLt_nil_nil]
    · rw [if_neg h2]; simp
  · rw [if_neg h]; simp [h]
def atZ (ks : List Int) (i : Int) : Int := ks.getD i.toNat 0
theorem atZ_ok {ks : List Int} {i : Int} (h0 : 0 ≤ i) (h1 : i < (ks.length : Int)) : L2.atI (ks.map PyData.int) i = some (.int (atZ ks i)) := by
  obtain ⟨k, rfl⟩ := Int.eq_ofNat_of_zero_le h0
  have hk : k < ks.length := by omega
  refine L2.atI_nat ?_
  rw [List.getElem?_map, List.getElem?_eq_getElem hk]
  simp [atZ, List.getD_eq_getElem?_getD, List.getElem?_eq_getElem hk]
theorem lay_ints : ∀ ns : List Int, PyData.canLayAll0 (ns.map PyData.int) = true ∧ PyData.depthAll (ns.map PyData.int) ≤ 1
  | [] => ⟨rfl, Nat.zero_le _⟩
  | n :: ns => by
    obtain ⟨h1, h2⟩ := lay_ints ns
    refine ⟨by show ((PyData.int n).canLay0 && PyData.canLayAll0 (ns.map PyData.int)) = true; rw [h1]; rfl, ?_⟩
    show max ((PyData.int n).depth) (PyData.depthAll (ns.map PyData.int)) ≤ 1
    have h3 : (PyData.int n).depth ≤ 1 := by simp [PyData.depth]
    omega
theorem shaped_intsL {ns : List Int} : SeqAt.shaped (.list (ns.map PyData.int)) = true := by
  obtain ⟨h1, h2⟩ := lay_ints ns
  unfold SeqAt.shaped
  rw [show (PyData.list (ns.map PyData.int)).canLay0 = PyData.canLayAll0 (ns.map PyData.int) from by simp [PyData.canLay0], h1]
  simp [PyData.depth]
  omega
theorem shaped_intsT {ns : List Int} : SeqAt.shaped (.tuple (ns.map PyData.int)) = true := by
  obtain ⟨h1, h2⟩ := lay_ints ns
  unfold SeqAt.shaped
  rw [show (PyData.tuple (ns.map PyData.int)).canLay0 = PyData.canLayAll0 (ns.map PyData.int) from by simp [PyData.canLay0], h1]
  simp [PyData.depth]
  omega
theorem eqv_ints : ∀ ns ms : List Int, PyData.eqvAll (ns.map PyData.int) (ms.map PyData.int) = decide (ns = ms)
  | [], [] => rfl
  | [], _ :: _ => rfl
  | _ :: _, [] => rfl
  | n :: ns, m :: ms => by
    show (PyData.eqv (.int n) (.int m) && PyData.eqvAll (ns.map PyData.int) (ms.map PyData.int)) = _
    rw [eqv_ints ns ms]
    simp only [PyData.eqv]
    by_cases h1 : n = m <;> by_cases h2 : ns = ms <;> simp [h1, h2]
theorem st_ne_ll {ns ms : List Int} {k : R → Prop} (h : k (.d (.bool (!decide (ns = ms))))) : cNe (.list (ns.map .int)) (.list (ms.map .int)) k := by
  refine st_ne (x := .list (ns.map .int)) (y := .list (ms.map .int)) shaped_intsL shaped_intsL ?_
  show k (.d (.bool (!PyData.eqvAll (ns.map .int) (ms.map .int))))
  rw [eqv_ints]
  exact h
def rangeI (n : Nat) : List Int := (List.range n).map fun (k : Nat) => (k : Int)
theorem rangeD_map {n : Nat} : rangeD 0 n = (rangeI n).map PyData.int := by
  unfold rangeD rangeI
  rw [List.map_map]
  apply List.map_congr_left
  intro k _
  simp
theorem rangeI_len {n : Nat} : (rangeI n).length = n := by unfold rangeI; simp
theorem rangeI_mem {n : Nat} {i : Int} : i ∈ rangeI n ↔ 0 ≤ i ∧ i < n := by
  unfold rangeI
  rw [List.mem_map]
  constructor
  · rintro ⟨k, hk, rfl⟩
    have := List.mem_range.mp hk
    omega
  · rintro ⟨h0, h1⟩
    exact ⟨i.toNat, List.mem_range.mpr (by omega), by omega⟩
end Hs
namespace Hs
open PySem
class PvAll (ws : List PV) (ds : outParam (List D)) : Prop where e : ws.map PV.asD = ds
instance pvN : PvAll [] [] := ⟨rfl⟩
instance pvD {x : D} {ws : List PV} {ds : List D} [h : PvAll ws ds] : PvAll (.d x :: ws) (x :: ds) := ⟨by rw [List.map_cons, h.e]; rfl⟩
instance pvL {x : List D} {ws : List PV} {ds : List D} [h : PvAll ws ds] : PvAll (.l x :: ws) (.list x :: ds) := ⟨by rw [List.map_cons, h.e]; rfl⟩
instance pvC {x : List (D × D)} {ws : List PV} {ds : List D} [h : PvAll ws ds] : PvAll (.dc x :: ws) (.dict x :: ds) := ⟨by rw [List.map_cons, h.e]; rfl⟩
class Frz (s : S) (s' : outParam S) : Prop where e : frzS s = s'
instance frzN : Frz [] [] := ⟨rfl⟩
theorem frzC {w : SV} {s s' : S} (h : frzS s = s') : frzS (w :: s) = frz1 w :: s' := by rw [← h]; rfl
instance frzNo {s s' : S} [h : Frz s s'] : Frz (.no :: s) (.no :: s') := ⟨frzC h.e⟩
instance frzD {x : D} {s s' : S} [h : Frz s s'] : Frz (.d x :: s) (.d x :: s') := ⟨frzC h.e⟩
instance frzL {x : List D} {s s' : S} [h : Frz s s'] : Frz (.l x :: s) (.d (.list x) :: s') := ⟨frzC h.e⟩
instance frzLL {x : List (List D)} {s s' : S} [h : Frz s s'] : Frz (.ll x :: s) (.d (.list (x.map .list)) :: s') := ⟨frzC h.e⟩
instance frzDc {x : List (D × D)} {s s' : S} [h : Frz s s'] : Frz (.dc x :: s) (.d (.dict x) :: s') := ⟨frzC h.e⟩
instance frzTp {ws : List PV} {ds : List D} {s s' : S} [p : PvAll ws ds] [h : Frz s s'] : Frz (.tp ws :: s) (.d (.tuple ds) :: s') := ⟨by
  rw [← p.e]
  exact frzC h.e⟩
def bindT (rs : List R) (s : S) (k : List SV → S → Prop) : Prop := bindA (List.replicate rs.length true) rs s k
section
variable {s' s'' : S}
variable {nx bk ct : S → Prop} {rt : R → S → Prop} {X xx : XF} {s : S} {a b c e : FE} {t u : FT} {f1 f2 : FS} {Q : R → S → Prop} {P : R → Prop} {i j : Nat} {x y d : D} {v : SV} {g g' : V2} {r : R} {rs : List R}
theorem st_ix2_l {xs : List D} (h : ixD (.list xs) x P) : ixD2 (.list xs) x P := .inl h
theorem st_ix2_t {xs : List D} (h : ixD (.tuple xs) x P) : ixD2 (.tuple xs) x P := .inl h
theorem st_ix2_s {z : Str} (h : ixD (.str z) x P) : ixD2 (.str z) x P := .inl h
theorem st_ix2_lit {ns : List Int} (h : ixD (litD ns) x P) : ixD2 (litD ns) x P := .inl h
theorem st_inK_l {xs : List D} (h : cIn x (.list xs) P) : cInK x (.list xs) P := .inl h
theorem st_inK_t {xs : List D} (h : cIn x (.tuple xs) P) : cInK x (.tuple xs) P := .inl h
theorem st_ninK_l {xs : List D} (h : cNotIn x (.list xs) P) : cNotInK x (.list xs) P := .inl h
theorem st_ninK_t {xs : List D} (h : cNotIn x (.tuple xs) P) : cNotInK x (.tuple xs) P := .inl h
theorem st_setD (h : a xx s fun r s1 => onDc i s1 fun _ => e xx s1 fun rj s2 => frz r s2 fun d s3 => frz rj s3 fun k s4 => onDc i s4 fun kvs => dPut kvs k d fun kvs' => putR i (.own (.dc kvs')) s4 nx) : fSetD i e a ⟨nx, rt, bk, ct, xx⟩ s := h
theorem st_onDc {k : List (D × D) → Prop} {xs : List (D × D)} [e : Get s i (.dc xs)] (h : k xs) : onDc i s k := by unfold onDc; rw [e.e]; exact h
theorem st_dget2 (h : onDc i s fun _ => a X s fun rj s1 => b X s1 fun rx s2 => frz rj s2 fun k s3 => frz rx s3 fun d s4 => onDc i s4 fun kvs => dGet kvs k fun o => Q (.d (o.getD d)) s4) : fDGet2 i a b X s Q := h
theorem st_emT (h : Q (.own (.dc [(.none, .none)])) s) : fEmT X s Q := h
def keyK (d : D) (K : L2.Key → Prop) : Prop := match keyN d with
  | some k' => K k'
  | none => False
theorem st_disp1 (h : a X s fun rk s1 => b X s1 fun rv s2 => frz rk s2 fun kd s3 => frz rv s3 fun d s4 => keyK kd fun k' => Q (.own (.dc [(keyD k', d)])) s4) : fDisp1 a b X s Q := h
theorem st_disp1k {z : Int} {K : L2.Key → Prop} (h : K (.inl z)) : keyK (.int z) K := h
theorem st_range3 {fa : FA} {Q : List D → S → Prop} (h : fa X s fun rs s2 => match rs with
  | [.d (.int i), .d (.int j), .d (.int c)] => c = -1 ∧ lim62 i ∧ lim62 j ∧ Q (downD i (i - j).toNat) s2
  | _ => False) : iRange3 fa X s Q := h
theorem st_bor [f : Frz s s'] (h : a (fun _ _ => False) s' fun r _ => flatR r (Q r s)) : fBor a X s Q := by
  unfold fBor
  rw [f.e]
  exact h
theorem st_borT {Q : Bool → S → Prop} [f : Frz s s'] (h : t (fun _ _ => False) s' fun b _ => Q b s) : fBorT t X s Q := by
  unfold fBorT
  rw [f.e]
  exact h
theorem st_bindT_nil {k : List SV → S → Prop} (h : k [] s) : bindT [] s k := h
theorem st_bindT_d {k : List SV → S → Prop} (h : bindT rs s fun svs s2 => k (.d x :: svs) s2) : bindT (.d x :: rs) s k := h
theorem st_bindT_o {k : List SV → S → Prop} (h : bindT rs s fun svs s2 => k (v :: svs) s2) : bindT (.own v :: rs) s k := h
theorem st_bindT_t {k : List SV → S → Prop} [g : Get s i v] [p : Put s i .no s'] (h : bindT rs s' fun svs s2 => k (v :: svs) s2) : bindT (.top i :: rs) s k := by
  show bindA (List.replicate rs.length true) rs (s.set i .no) (fun svs s2 => k (s.getD i .no :: svs) s2)
  rw [p.e, g.e]
  exact h
theorem st_toPs_nil {k : List PV → Prop} (h : k []) : toPs [] k := h
theorem st_toPs_d {k : List PV → Prop} {r : List SV} (h : toPs r fun ws => k (.d x :: ws)) : toPs (.d x :: r) k := h
theorem st_toPs_l {k : List PV → Prop} {r : List SV} {xs : List D} (h : toPs r fun ws => k (.l xs :: ws)) : toPs (.l xs :: r) k := h
theorem st_toPs_dc {k : List PV → Prop} {r : List SV} {xs : List (D × D)} (h : toPs r fun ws => k (.dc xs :: ws)) : toPs (.dc xs :: r) k := h
theorem st_tupO {fa : FA} (h : fa X s fun rs s1 => bindT rs s1 fun svs s2 => toPs svs fun ws => Q (.own (.tp ws)) s2) : fTupO fa X s Q := h
theorem st_var_tp {ws : List PV} [e : Get s i (.tp ws)] (h : Q (.top i) s) : fVar i X s Q := by unfold fVar; rw [e.e]; exact h
theorem st_frz_own_tp {k : D → S → Prop} {ws : List PV} {ds : List D} [e : PvAll ws ds] (h : k (.tuple ds) s) : frz (.own (.tp ws)) s k := by
  show k (.tuple (ws.map PV.asD)) s
  rw [e.e]; exact h
theorem st_frz_top_tp {k : D → S → Prop} {ws : List PV} {ds : List D} [g : Get s i (.tp ws)] [e : PvAll ws ds] [p : Put s i (.d (.tuple ds)) s'] (h : k (.tuple ds) s') : frz (.top i) s k := frz_top' (x := .tuple ds) (by rw [g.e]; show some (PyData.tuple (ws.map PV.asD)) = _; rw [e.e]) (by rw [p.e]; exact h)
theorem st_onP {k : Nat} {kk : List PV → List D → Prop} {ws : List PV} {xs : List D} [g : Get s i (.tp ws)] (e : ws[k]? = some (.l xs)) (h : kk ws xs) : onP i k s kk := by
  unfold onP
  rw [g.e]
  dsimp only
  rw [e]
  exact h
theorem st_lmP {k : Nat} {g : LM} {fa : FA} (h : onP i k s fun _ _ => fa X s fun rs s1 => frzAll rs s1 fun ds s2 => onP i k s2 fun ws xs => g xs ds fun d xs' => putR i (.own (.tp (ws.set k (.l xs')))) s2 fun s3 => Q (.d d) s3) : fLmP i k g fa X s Q := h
theorem st_flat_b {P : Prop} {z : Bool} (h : P) : flatR (.d (.bool z)) P := ⟨rfl, h⟩
theorem st_flat_i {P : Prop} {z : Int} (h : P) : flatR (.d (.int z)) P := ⟨rfl, h⟩
end
structure DIs (kvs : List (D × D)) (f : Int → Option D) : Prop where
  key : ∀ p ∈ kvs, ∃ i : Int, p.1 = .int i
  get : ∀ i : Int, (kvs.find? fun p => sameN p.1 (.inl i)).map (·.2) = f i
theorem DIs.nil : DIs [] fun _ => none := ⟨fun p hp => (nomatch hp), fun i => rfl⟩
theorem DIs.one (k : Int) (x : D) : DIs [(keyD (.inl k), x)] fun i => if i = k then some x else none := by
  refine ⟨fun p hp => ?_, fun i => ?_⟩
  · rw [List.mem_singleton] at hp
    exact ⟨k, by rw [hp]; rfl⟩
  · rw [List.find?_cons]
    dsimp only
    rw [sameN_keyD]
    by_cases h : i = k
    · subst h
      simp
    · rw [decide_eq_false (fun e => h (Sum.inl.inj e).symm), if_neg h]
      rfl
theorem find_repl {k : L2.Key} {x : D} (j : L2.Key) : ∀ kvs : List (D × D), ((kvs.map fun p => if sameN p.1 k = true then (p.1, x) else p).find? fun p => sameN p.1 j).map (·.2) = if j = k then ((kvs.find? fun p => sameN p.1 j).map fun _ => x) else (kvs.find? fun p => sameN p.1 j).map (·.2)
  | [] => by simp
  | p :: r => by
    have ih := find_repl (k := k) (x := x) j r
    rw [List.map_cons, List.find?_cons, List.find?_cons]
    have e1 : (if sameN p.1 k = true then (p.1, x) else p).1 = p.1 := by split <;> rfl
    rw [e1]
    cases hs : sameN p.1 j with
    | false => exact ih
    | true =>
      by_cases h : j = k
      · subst h
        rw [if_pos rfl, if_pos hs]; rfl
      · have : ¬ sameN p.1 k = true := fun h2 => by
          unfold sameN at hs h2
          have h3 := of_decide_eq_true hs
          have h4 := of_decide_eq_true h2
          rw [h3] at h4
          exact h (Option.some.inj h4)
        rw [if_neg h, if_neg this]
theorem find_snoc {k : L2.Key} {x : D} (j : L2.Key) : ∀ kvs : List (D × D), (kvs.any fun p => sameN p.1 k) = false → ((kvs ++ [(keyD k, x)]).find? fun p => sameN p.1 j).map (·.2) = if j = k then some x else (kvs.find? fun p => sameN p.1 j).map (·.2)
  | [], _ => by
    rw [List.nil_append, List.find?_cons]
    dsimp only
    rw [sameN_keyD]
    by_cases h : j = k
    · subst h; simp
    · rw [decide_eq_false (fun e => h e.symm), if_neg h]
  | p :: r, ha => by
    rw [List.any_cons, Bool.or_eq_false_iff] at ha
    have ih := find_snoc (k := k) (x := x) j r ha.2
    rw [List.cons_append, List.find?_cons, List.find?_cons]
    cases hs : sameN p.1 j with
    | false => exact ih
    | true =>
      have : ¬ j = k := fun h => by rw [h] at hs; rw [hs] at ha; cases ha.1
      rw [if_neg this]
theorem find_any {k : L2.Key} : ∀ kvs : List (D × D), (kvs.any fun p => sameN p.1 k) = true → ((kvs.find? fun p => sameN p.1 k)).isSome = true
  | [], h => by cases h
  | p :: r, h => by
    rw [List.find?_cons]
    cases hs : sameN p.1 k with
    | true => rfl
    | false =>
      rw [List.any_cons, hs] at h
      exact find_any r h
theorem DIs.put {kvs : List (D × D)} {f : Int → Option D} (h : DIs kvs f) (k : Int) (x : D) : DIs (putN kvs (.inl k) x) fun i => if i = k then some x else f i := by
  unfold putN
  split
  · rename_i ha
    refine ⟨fun p hp => ?_, fun i => ?_⟩
    · obtain ⟨q, hq, rfl⟩ := List.mem_map.mp hp
      obtain ⟨j, e⟩ := h.key q hq
      refine ⟨j, ?_⟩
      split <;> exact e
    · rw [find_repl]
      by_cases hi : i = k
      · subst hi
        rw [if_pos rfl, if_pos rfl]
        have := find_any kvs ha
        cases e : kvs.find? (fun p => sameN p.1 (.inl i)) with
        | none => rw [e] at this; cases this
        | some q => rfl
      · rw [if_neg (fun e => hi (Sum.inl.inj e)), if_neg hi]
        exact h.get i
  · rename_i ha
    have ha : (kvs.any fun p => sameN p.1 (.inl k)) = false := by simpa using ha
    refine ⟨fun p hp => ?_, fun i => ?_⟩
    · rcases List.mem_append.mp hp with hp | hp
      · exact h.key p hp
      · rw [List.mem_singleton] at hp
        exact ⟨k, by rw [hp]; rfl⟩
    · rw [find_snoc _ _ ha]
      by_cases hi : i = k
      · subst hi; rw [if_pos rfl, if_pos rfl]
      · rw [if_neg (fun e => hi (Sum.inl.inj e)), if_neg hi]
        exact h.get i
end Hs
namespace Hs
open PySem PySem.Spec PyProof.Rows L2
section
variable {prog : Program} {w : World} {A : Around} {E : Value → Shared → Prop} {s : Shared}
theorem sorted_tupsG {l : Addr} {vs : List Value} {k : Value → List Int} {Q : Value → Shared → Prop} (hu : A.in1.in1.units < cLine) (hl : s.heap.IsList l vs.toArray) (hz : vs.length ≤ sizeLine) (hp : ∀ v ∈ vs, IsTupI s.heap v (k v))
    (h : ∀ (h' : Heap) (d : Addr) (out : List Value), SrtO.Srtd (fun v u => lexL (k v) (k u)) out → SrtO.Stb (fun v u => lexL (k v) (k u)) out vs → (∀ b o, s.heap.get? b = some o → h'.get? b = some o) → s.heap.objs.size ≤ d → (∃ n, h'.get? d = some (seqObj "list" out.toArray n)) → Q (.ref d) { s with heap := h' }) :
    wpAny (model prog w) A (call (.builtin "sorted") [.ref l]) Q E s := by
  refine SrtO.sorted_ord (lexL_swo k) hl hz (fun h2 h₁ a ha kk => ?_) fun out hs hb => ?_
  · refine tups_sortableG (s := { s with heap := h₁ }) hu (by omega) (fun v hm => (hp v hm).keeps fun b o e _ => (kk b o e).2) fun o e => ?_
    have e' : some o = some (seqObj "list" vs.toArray 0) := e.symm.trans ha
    cases e'
    intro c
    exact absurd (Value.type.inj c) (by decide)
  · exact h _ _ out hs hb (fun b o e => sortedAll_old e) (Nat.le_succ _) (sortedAll_at s.heap vs out.toArray)
end
section
variable {X : Cx}
theorem sorted_tupsE {pins : List (Addr × Obj)} {s : Shared} {σ : St} {H : Hp} {q : Addr} {vs : List V} {Q : VK} (hu : X.A.units + 64 < cLine) (k : V → List Int) (I : Inv X pins σ H s) (hs : SqL X.K H q vs) (hx : ∀ x ∈ vs, ∃ t, x = V.ref t ∧ SqT X.K H t ((k x).map V.int))
    (g : ∀ ys p, SrtO.Srtd (fun x y => lexL (k x) (k y)) ys → SrtO.Stb (fun x y => lexL (k x) (k y)) ys vs → H p = none → Q (.ref p) (upd H p (.lst ys))) : wpAny (model X.prog X.w) X.A (call (.builtin "sorted") [.ref q]) (EP X pins σ Q) X.xe s := by
  obtain ⟨its, rv, hl, hz⟩ := I.list hs
  obtain ⟨e1, e2⟩ := refs_back rv fun x m => by
    obtain ⟨t, e, _⟩ := hx x m
    exact ⟨t, e⟩
  have len := rv.length
  have mem : ∀ v ∈ its, backV v ∈ vs := fun v hv => by
    rw [e1]
    exact List.mem_map.mpr ⟨_, hv, rfl⟩
  refine sorted_tupsG (k := fun u => k (backV u)) (by show X.A.units + 1 + 1 < cLine; omega) hl.isList (by rw [← len]; exact hz) ?_ ?_
  · intro v hv
    have hm := mem v hv
    obtain ⟨t, rfl⟩ := e2 v hv
    obtain ⟨t', e, ht⟩ := hx _ hm
    have et : t' = t := by
      have : V.ref t = V.ref t' := e
      cases this; rfl
    subst et
    obtain ⟨us, ru, ⟨o, ho, hc, n, hd⟩, _⟩ := I.tuple ht
    exact ⟨t', o, us, n, rfl, ho, hc, hd, ints_of_vals ru⟩
  · intro h' d out h1 h2 kp hd ⟨n, hn⟩
    have back : ∀ u ∈ out, ∃ a, u = Value.ref a := fun u hu => e2 u (h2.perm.mem_iff.mp hu)
    have hb : SrtO.Stb (fun x y => lexL (k x) (k y)) (out.map backV) vs := by
      rw [e1]
      exact SrtO.Stb.map (lexL_swo k) backV h2
    refine ⟨.ref d, upd H d (.lst (out.map backV)), I.laid (t' := s.toks) kp hd ⟨?_, out, n, vals_back back, hn⟩, rfl, g _ d (SrtO.srtd_map h1) hb (I.hok.fresh hd)⟩
    rw [hb.len]
    exact hz
def bSortTE : VN := fun ds Q => match ds with
  | [.list xs] => match tupsOf xs with
    | some nss => ∀ mss : List (List Int), mss.Perm nss → mss.Pairwise (fun a b => lexL b a = false) → Q (.own (.l (mss.map tupI)))
    | none => False
  | _ => False
theorem fb_sortTE (hu : X.A.units + 64 < cLine) : CallR X (.builtin "sorted") (rFN X.K bSortTE) := by
  intro pins s σ H vs us Q I rv ⟨Z, ds, Qf, hz, rr, g, q⟩
  unfold bSortTE at g
  split at g
  · split at g
    · rename_i eb
      obtain ⟨v, rfl, r1⟩ := rr.one
      obtain ⟨p, vs, rfl, h1, h2, h3⟩ := r1.list hz
      rw [tupsOf_eq eb] at h3
      obtain ⟨u, rfl, ru⟩ := vals1 rv
      cases ru
      have each : ∀ {vs : List V} {ps : List (List Int)}, RpAll X.K Z vs (ps.map tupI) → (∀ x ∈ vs, ∃ t, x = V.ref t ∧ SqT X.K H t ((keyT X.K Z x).map V.int)) ∧ vs.map (keyT X.K Z) = ps ∧ ∀ x ∈ vs, Rp X.K Z x (tupI (keyT X.K Z x)) := by
        intro vs
        induction vs with
        | nil =>
          intro ps ra
          cases ps with
          | nil => exact ⟨fun x hx => (nomatch hx), rfl, fun x hx => (nomatch hx)⟩
          | cons p ps => cases ra
        | cons v vs ih =>
          intro ps ra
          cases ps with
          | nil => cases ra
          | cons p ps =>
            cases ra with
            | cons a1 a2 =>
              obtain ⟨i1, i2, i3⟩ := ih a2
              have ek := rp_tupI_key (fun t xs ys a b => I.tuple_inj (same_sqT hz a) (same_sqT hz b)) a1
              obtain ⟨t, et, ht⟩ := rp_tupI a1
              refine ⟨fun x hx => ?_, by rw [List.map_cons, ek, i2], fun x hx => ?_⟩
              · rcases List.mem_cons.mp hx with rfl | hx
                · exact ⟨t, et, by rw [ek]; exact same_sqT hz ht⟩
                · exact i1 x hx
              · rcases List.mem_cons.mp hx with rfl | hx
                · rw [ek]; exact a1
                · exact i3 x hx
      obtain ⟨i1, i2, i3⟩ := each h3
      refine sorted_tupsE hu (keyT X.K Z) I (.inl h1) i1 fun ys p' hs hb hn => ?_
      have hp := hb.perm
      have ry : RpAll X.K Z ys ((ys.map (keyT X.K Z)).map tupI) := by
        have all : ∀ x ∈ ys, Rp X.K Z x (tupI (keyT X.K Z x)) := fun x hx => i3 x (hp.mem_iff.mp hx)
        clear hs hb hn hp
        induction ys with
        | nil => exact .nil
        | cons y ys ih => exact .cons (all y List.mem_cons_self) (ih fun x hx => all x (List.mem_cons_of_mem _ hx))
      refine q _ _ Z _ (.lst hz hn (by rw [hp.length_eq]; exact h2) ry) (g _ (by rw [← i2]; exact hp.map _) ?_)
      rw [List.pairwise_map]
      exact hs
    · exact g.elim
  · exact g.elim
end
end Hs
namespace PySem
open PySem.Spec PyProof.Rows
section
variable {prog : Program} {w : World} {K : Type} [DecidableEq K] {knd : HeapKind prog w K} {A : Around} {E : Value → Shared → Prop} {s : Shared}
theorem hs_call_dictH {o : Addr} {more : List (K × Addr × Value)} {Q : Value → Shared → Prop} (hu : knd.room A.in1.in1) (hoS : (o == sysModules) = false) (ho : s.heap.DictOfH knd o more)
    (his : ∀ x ∈ more, knd.is (s.heap.push { cls := .type "dict", data := .dict #[] }) x.1 x.2.1) (hty : ∀ x ∈ more, s.TypeIs (.ref x.2.1) "tuple") (hap : (more.map fun x => knd.hash x.1).Nodup) (hsz : more.length ≤ sizeLine)
    (h : ∀ h', h'.DictOfH knd s.heap.objs.size more → Heap.SameBut s.heap.objs.size (s.heap.push { cls := .type "dict", data := .dict #[] }) h' → Q (.ref s.heap.objs.size) { s with heap := h' }) :
    wpAny (model prog w) A (call (.type "dict") [.ref o]) Q E s := by
  refine callType_codes (Q₁ := fun obj s₁ => obj = .ref s.heap.objs.size ∧ s₁ = { s with heap := s.heap.push { cls := .type "dict", data := .dict #[] } }) F.kt_called_dict (F.kt_typeCall_dict_1 _) F.entry_dict_init (kt_code_dict_new _ ⟨rfl, rfl⟩) ?_
  rintro obj s₁ ⟨rfl, rfl⟩
  have hnew : (s.heap.push { cls := .type "dict", data := .dict #[] }).DictOfH knd s.heap.objs.size [] := Heap.DictOfH.new s.heap
  have ho' : (s.heap.push { cls := .type "dict", data := .dict #[] }).DictOfH knd o more := ho.at' (fun _ e => Heap.get?_push_of_some _ e) his
  have hn := ho.nodup
  have hdo : s.heap.objs.size ≠ o := Ne.symm (Nat.ne_of_lt ho.lt_size)
  refine ⟨hnew.typeIs, F.args_dict_init_2 _ _, ?_⟩
  unfold Builtin.«dict.__init__»
  refine wpAny_bind ?_
  unfold Builtin.Dict.selfAndRest
  refine wpAny_bind (wpAny_notOrdered_dict hnew.typeIs ?_)
  show wpAny _ _ (pure (s.heap.objs.size, [Value.ref o])) _ _ _
  refine wpAny_pure ?_
  refine updateFrom_dictH (A := A.in1) .none hu hdo hoS hnew ho' (.inr ⟨fun x hx => ?_, hap⟩) (by simpa using hsz) fun h' hd' _ hs' => ?_
  · obtain ⟨ob, e, c⟩ := hty x hx
    exact ⟨ob, Heap.get?_push_of_some _ e, c⟩
  · rw [storedAllH_nil_of_nodup more hn] at hd'
    exact ⟨rfl, h h' hd' hs'⟩
theorem hs_samePairsH {nm : String} {a b : Addr} {ka kb : List (K × Addr × Value)} {Q : Bool → Shared → Prop} (hu : knd.room A) (ha : (a == sysModules) = false) (hb : (b == sysModules) = false)
    (da : s.heap.DictOfH knd a ka) (db : s.heap.DictOfH knd b kb) (hl : ka.length = kb.length) (hits : ∀ x ∈ ka, ∃ p, atKey kb x.1 = some p ∧ SeqAt.EqAt A s x.2.2 p.2 true) (h : Q true s) :
    wpAny (model prog w) A (Builtin.Dict.samePairs nm a b) Q E s := by
  obtain ⟨oa, es, ep, hoa, _, hda, hea, hisa, hna⟩ := da
  obtain ⟨ob, es', ep', hob, _, hdb, heb, hisb, hnb⟩ := db
  have hla : ka.length = es.size := (size_of_entries hea).symm
  have hlb : kb.length = es'.size := (size_of_entries heb).symm
  unfold Builtin.Dict.samePairs Builtin.Dict.showsAll
  rw [if_neg (show ¬ (a == sysModules) = true by rw [ha]; exact Bool.false_ne_true), if_neg (show ¬ (b == sysModules) = true by rw [hb]; exact Bool.false_ne_true)]
  refine wpAny_bind (wpAny_pure (wpAny_bind (wpAny_pure ?_)))
  refine wpAny_bind (wpAny_dictEntries hoa hda ?_)
  dsimp only
  refine wpAny_bind (wpAny_dictEntries hob hdb ?_)
  have hsz : es.size = es'.size := by rw [← hla, ← hlb]; exact hl
  rw [if_neg (by rw [hsz]; simp)]
  refine wpAny_bind (wpAny_dictEpoch hoa hda ?_)
  refine wpAny_bind ?_
  rw [Std.Legacy.Range.forIn_eq_forIn_range']
  simp only [Std.Legacy.Range.size, Nat.sub_zero, Nat.add_sub_cancel, Nat.div_one]
  refine wpAny_forIn_list _
    (fun rest q s' => s' = s ∧ q = (none, ()) ∧ ∃ i, rest = List.range' i (es.size - i) ∧ i ≤ es.size)
    _ ?_ ?_ _ _ ⟨rfl, rfl, 0, by simp, Nat.zero_le _⟩
  · rintro x rest q s' ⟨rfl, rfl, i, hr, hi⟩
    have hlt : i < es.size := by
      rcases Nat.lt_or_ge i es.size with h | h
      · exact h
      · rw [Nat.sub_eq_zero_of_le h] at hr; simp at hr
    obtain ⟨rfl, hrest⟩ : x = i ∧ rest = List.range' (i + 1) (es.size - (i + 1)) := by
      have e : es.size - i = (es.size - (i + 1)) + 1 := by omega
      rw [e, List.range'_succ] at hr
      injection hr with h1 h2
      exact ⟨h1, h2⟩
    refine wpAny_bind (wpAny_dictEntries hoa hda ?_)
    obtain ⟨⟨k, ad, v⟩, hkv⟩ : ∃ kv, ka[x]? = some kv := ⟨ka[x]'(by rw [hla]; exact hlt), List.getElem?_eq_getElem _⟩
    rw [entry_at hea x, hkv]
    show wpAny _ _ (holding [Value.ref ad, v] _ >>= _) _ _ _
    have hm := List.mem_of_getElem? hkv
    obtain ⟨p, hp, heq⟩ := hits _ hm
    refine wpAny_bind (wpAny_holding (wpAny_bind (wpAny_dictFind_heap hu (hisa _ hm) hob hdb heb hisb hnb (fun hno => ?_) fun j p' hj => ?_)))
    · rw [atKey_none_of_get hno] at hp; cases hp
    · rw [atKey_of_get hnb hj] at hp
      cases hp
      refine wpAny_bind (wpAny_dictEntries hob hdb ?_)
      rw [entry_at heb j, hj]
      refine wpAny_holding (heq _ _ _ _ ?_)
      show wpAny _ _ (if (!true) = true then _ else _) _ _ _
      rw [if_neg (by decide)]
      refine wpAny_bind (wpAny_dictEpoch hoa hda ?_)
      rw [if_neg (by simp)]
      exact wpAny_pure ⟨rfl, rfl, x + 1, hrest, hlt⟩
  · rintro q s' ⟨rfl, rfl, i, hr, hi⟩
    exact wpAny_pure h
theorem hs_neH {a b : Addr} {ka kb : List (K × Addr × Value)} {Q : Value → Shared → Prop} (hr : knd.room A.in1) (ha : (a == sysModules) = false) (hb : (b == sysModules) = false)
    (da : s.heap.DictOfH knd a ka) (db : s.heap.DictOfH knd b kb) (hu : A.units < cLine) (hl : ka.length = kb.length) (hits : ∀ x ∈ ka, ∃ p, atKey kb x.1 = some p ∧ SeqAt.EqAt A.in1 s x.2.2 p.2 true) (h : Q (.bool false) s) :
    wpAny (model prog w) A (compareOp .NotEq (.ref a) (.ref b)) Q E s := by
  refine wpAny_richCompare_same_room (op := .NotEq) da.typeIs db.typeIs PySem.F.slot_dict_ne (wpAny_call_entry PySem.F.slot_dict_ne da.typeIs PySem.F.entry_dict_ne ?_ (PySem.F.args_dict_ne_2 _ _)) hu
  show wpAny _ _ (Builtin.Dict.dictSlotArgs "__ne__" ⟨[.ref a, .ref b], []⟩ >>= _) _ _ s
  refine wpAny_bind ?_
  unfold Builtin.Dict.dictSlotArgs
  refine wpAny_bind (wpAny_notOrdered_dict da.typeIs ?_)
  show wpAny _ _ (pure (Value.ref a, Value.ref b)) _ _ s
  refine wpAny_pure ?_
  refine wpAny_bind (wpAny_isInstance (T := "dict") db.typeIs PySem.F.sub_dict_dict ?_)
  simp only [Bool.not_true, Bool.false_eq_true, if_false]
  refine wpAny_bind (wpAny_pure (wpAny_bind (wpAny_pure ?_)))
  refine wpAny_bind (hs_samePairsH hr ha hb da db hl hits ?_)
  refine wpAny_pure ⟨_, rfl, ?_, ?_⟩
  · exact fun x => nomatch x
  · simpa using h
end
end PySem
namespace L2
open PySem PySem.Spec PyProof.Rows
section
variable {X : Cx}
theorem key_push {P : Program} {w : World} {h : Heap} {ks : List Key} {a : Addr} {o : Obj} (x : (tupleKind (mixKind P w)).is h ks a) : (tupleKind (mixKind P w)).is (h.push o) ks a := by
  obtain ⟨ob, its, n, h1, h2⟩ := x
  exact ⟨ob, its, n, Heap.get?_push_of_some _ h1, h2⟩
theorem KT.keys {H : Hp} : ∀ {kvs : List (List Key × V)} {xs : List (List Key × Addr × Value)}, KT H kvs xs → xs.map (·.1) = kvs.map (·.1)
  | _, _, .nil => rfl
  | _, _, .cons h r => by rw [List.map_cons, List.map_cons, KT.keys r, h.1]
/-- dict(d), the keys tuples -/
theorem call_dictT (hu : X.A.units + 2 < cLine) : CallR X (.type "dict") (fun xs H Q => ∃ (p : Addr) (kvs : List (List Key × V)), xs = [V.ref p] ∧ Rd H p (.dT kvs) ∧ ((kvs.map (·.1)).map (tupleKind (mixKind X.prog X.w)).hash).Nodup ∧ ∀ n, H n = none → Q (.ref n) (upd H n (.dT kvs))) := by
  intro pins s σ H xs us Q I r h
  obtain ⟨p, kvs, rfl, hp, hap, q⟩ := h
  obtain ⟨u, rfl, rx⟩ := vals1 r
  cases rx
  obtain ⟨z, hd, ys, rel, dd⟩ := dt_rd I.hok hp
  have hl : kvs.length = ys.length := Paired.length rel
  obtain ⟨_, _, _, _, _, _, _, his, _⟩ := id dd
  refine PySem.hs_call_dictH (knd := tupleKind (mixKind X.prog X.w)) (tupleKind_room_in1 (by show X.A.units + 1 + 1 < cLine; omega)) hd dd (fun x hx => key_push (his x hx)) (fun x hx => ?_) ?_ (by omega) fun h' hd' hs => ?_
  · obtain ⟨ob, its, n, h1, h2, _⟩ := his x hx
    exact ⟨ob, h1, h2⟩
  · rw [← rel.keys, List.map_map] at hap
    exact hap
  · obtain ⟨o, es, ep, ho, hx, hdt, he, _, hn⟩ := hd'
    have hf := I.hok.fresh (Nat.le_refl s.heap.objs.size)
    refine ⟨.ref s.heap.objs.size, upd H s.heap.objs.size (.dT kvs), I.laid (t' := s.toks) (fun b ob e => (hs.2 b (Nat.ne_of_lt (Heap.lt_size e))).trans (Heap.get?_push_of_some _ e)) (Nat.le_refl _) ⟨z, beq_eq_false_iff_ne.mpr (Ne.symm (Nat.ne_of_lt I.big)), ys, rel.keeps (fun b vs e => ?_), o, es, ep, ho, hx, hdt, he, hn⟩, rfl, q _ hf⟩
    rw [upd_ne (ne_of_none e hf)]
    exact e
theorem pairs_ofT {pins : List (Addr × Obj)} {σ : St} {H : Hp} {s : Shared} (I : Inv X pins σ H s) : ∀ (ps : List (Addr × List Key × Addr × V)), (∀ p ∈ ps, SqT X.K H p.1 [.ref p.2.2.1, p.2.2.2] ∧ H p.2.2.1 = some (.tup (p.2.1.map kV))) →
    ∃ qs : List (List Key × Addr × Value), KT H (ps.map fun p => (p.2.1, p.2.2.2)) qs ∧ qs.map (·.1) = ps.map (·.2.1) ∧ qs.length = ps.length ∧ ∀ (j : Nat) (p : Addr × List Key × Addr × V), ps[j]? = some p → ∃ y, qs[j]? = some (p.2.1, p.2.2.1, y) ∧ IsTup s.heap p.1 #[.ref p.2.2.1, y]
  | [], _ => ⟨[], .nil, rfl, rfl, fun j p e => by simp at e⟩
  | p :: ps, hp => by
    obtain ⟨qs, r, hk, hl, hj⟩ := pairs_ofT I ps fun q hq => hp q (List.mem_cons_of_mem _ hq)
    obtain ⟨h1, h2⟩ := hp p List.mem_cons_self
    obtain ⟨its, rv, ht, _⟩ := I.tuple h1
    obtain ⟨u, y, ei, ru, ry⟩ := vals2 rv
    subst ei
    cases (show u = Value.ref p.2.2.1 from ru)
    refine ⟨(p.2.1, p.2.2.1, y) :: qs, .cons ⟨rfl, h2, ry⟩ r, by rw [List.map_cons, List.map_cons, hk], by rw [List.length_cons, List.length_cons, hl], fun j q e => ?_⟩
    cases j with
    | zero =>
      cases (show some p = some q from e)
      exact ⟨y, rfl, ht⟩
    | succ j =>
      obtain ⟨y', e1, e2⟩ := hj j q (by simpa using e)
      exact ⟨y', by simpa using e1, e2⟩
/-- dict(xs), xs a list of pairs whose first parts are tuples, all unlike -/
theorem call_dictPT (hc : X.calm = true) (hu : X.A.units + 2 < cLine) : CallR X (.type "dict") (fun xs H Q => ∃ (a : Addr) (ps : List (Addr × List Key × Addr × V)), xs = [.ref a] ∧ SqL X.K H a (ps.map fun p => V.ref p.1) ∧
    (∀ p ∈ ps, SqT X.K H p.1 [.ref p.2.2.1, p.2.2.2] ∧ H p.2.2.1 = some (.tup (p.2.1.map kV))) ∧ (ps.map (·.2.1)).Nodup ∧ ∀ n, H n = none → Q (.ref n) (upd H n (.dT (ps.map fun p => (p.2.1, p.2.2.2))))) := by
  intro pins s σ H xs us Q I r h
  obtain ⟨a, ps, rfl, hq, hp, hnd, q⟩ := h
  obtain ⟨u, rfl, rx⟩ := vals1 r
  cases rx
  have hq' : SqL X.K H a ((ps.map (·.1)).map V.ref) := by rw [List.map_map]; exact hq
  obtain ⟨its, rv, pl, hz⟩ := I.list hq'
  have ei := refs_at rv
  subst ei
  rw [List.length_map, List.length_map] at hz
  obtain ⟨qs, rel, hk, hl, hj⟩ := pairs_ofT I ps hp
  obtain ⟨o, n, ho, hcl, hd, hdat⟩ := pl
  have hnq : (qs.map (·.1)).Nodup := by rw [hk]; exact hnd
  let prs : List (Value × Value) := qs.map fun x => (Value.ref x.2.1, x.2.2)
  let Ts : Nat → Addr := fun j => (ps.map (·.1)).getD j 0
  have hpl : prs.length = ps.length := by show (qs.map _).length = _; rw [List.length_map, hl]
  have pi : PairItems s.heap ((ps.map (·.1)).map Value.ref).toArray Ts prs := by
    refine ⟨by rw [List.size_toArray, List.length_map, List.length_map, hpl], fun j k v e => ?_⟩
    have hjl : j < ps.length := by rw [← hpl]; exact (List.getElem?_eq_some_iff.mp e).1
    obtain ⟨p, ep⟩ : ∃ p, ps[j]? = some p := ⟨ps[j], List.getElem?_eq_getElem hjl⟩
    obtain ⟨y, e1, e2⟩ := hj j p ep
    have e' : prs[j]? = some (Value.ref p.2.2.1, y) := by show (qs.map _)[j]? = _; rw [List.getElem?_map, e1]; rfl
    rw [e'] at e
    cases e
    have et : Ts j = p.1 := by show (ps.map (·.1)).getD j 0 = _; rw [List.getD_eq_getElem?_getD, List.getElem?_map, ep]; rfl
    rw [et]
    refine ⟨?_, .inl e2⟩
    rw [List.getElem?_toArray, List.getElem?_map, List.getElem?_map, ep]; rfl
  refine call_dict_pairsH (knd := tupleKind (mixKind X.prog X.w)) (ps := qs) (PairArg.list a _ Ts prs) (I.ok.hd hc) (tupleKind_room_in1 (by show X.A.units + 1 + 1 < cLine; omega)) ⟨⟨o, n, ho, hcl, hd, hdat⟩, pi⟩ ⟨by rw [hpl, hl], fun i key v e => ?_⟩ (fun h' hk' x hx => ?_) (by rw [hpl]; exact hz) fun h' tk hd' k => ?_
  · have e : (qs.map fun x => (Value.ref x.2.1, x.2.2))[i]? = some (key, v) := e
    rw [List.getElem?_map] at e
    obtain ⟨x, ex, e2⟩ := Option.map_eq_some_iff.mp e
    cases e2
    exact ⟨x.1, x.2.1, ex, rfl⟩
  · obtain ⟨j, ej⟩ := List.mem_iff_getElem?.mp hx
    have hjl : j < ps.length := by rw [← hl]; exact (List.getElem?_eq_some_iff.mp ej).1
    obtain ⟨p, ep⟩ : ∃ p, ps[j]? = some p := ⟨ps[j], List.getElem?_eq_getElem hjl⟩
    obtain ⟨y, e1, _⟩ := hj j p ep
    rw [e1] at ej
    cases ej
    obtain ⟨ob, its, m, h1, h2⟩ := key_of I.hok (hp p (List.mem_of_getElem? ep)).2
    exact ⟨ob, its, m, hk' _ _ (Nat.ne_of_lt (Heap.lt_size h1)) (fun z => nomatch z) h1, h2⟩
  · rw [storedAllH_nil_of_nodup qs hnq] at hd'
    obtain ⟨od, es, ep, hod, hx, hdt, he, _, hn⟩ := hd'
    have hf := I.hok.fresh (Nat.le_refl s.heap.objs.size)
    refine ⟨.ref s.heap.objs.size, upd H s.heap.objs.size (.dT _), I.laid (t' := tk) (fun b ob e => k b ob (fun z => nomatch z) e) (Nat.le_refl _) ⟨by rw [List.length_map]; exact hz, beq_eq_false_iff_ne.mpr (Ne.symm (Nat.ne_of_lt I.big)), qs, rel.keeps (fun b vs e => ?_), od, es, ep, hod, hx, hdt, he, hn⟩, rfl, q _ hf⟩
    rw [upd_ne (ne_of_none e hf)]
    exact e
/-- two dicts of the same keys and whole numbers -/
theorem op_ne_dictT (hu : X.A.units + 1 < cLine) : OpR X (compareOp .NotEq) (fun x y H Q => ∃ a b ks, x = .ref a ∧ y = .ref b ∧ Rd H a (.dT ks) ∧ Rd H b (.dT ks) ∧ (∀ p ∈ ks, ∃ i, p.2 = V.int i) ∧ Q (.bl false) H) := by
  intro pins s σ H x y v u Q I rx ry h
  obtain ⟨a, b, ks, rfl, rfl, ea, eb, hi, q⟩ := h
  obtain rfl : v = Value.ref a := rx
  obtain rfl : u = Value.ref b := ry
  obtain ⟨za, ya, va, ra, da⟩ := dt_rd I.hok ea
  obtain ⟨zb, yb, vb, rb, db⟩ := dt_rd I.hok eb
  have hl : va.length = vb.length := by rw [← Paired.length ra, ← Paired.length rb]
  have hn : (vb.map (·.1)).Nodup := db.nodup
  refine PySem.hs_neH (knd := tupleKind (mixKind X.prog X.w)) (tupleKind_room_in1 hu) ya yb da db (by omega) hl (fun x hx => ?_) (fin_bl I q rfl)
  obtain ⟨j, hj⟩ := List.mem_iff_getElem?.mp hx
  have hjl : j < ks.length := by rw [Paired.length ra]; exact (List.getElem?_eq_some_iff.mp hj).1
  obtain ⟨p, hp⟩ : ∃ p, ks[j]? = some p := ⟨ks[j], List.getElem?_eq_getElem hjl⟩
  obtain ⟨x', e1, k1, _, r1⟩ := paired_get ra hp
  obtain ⟨y', e2, k2, _, r2⟩ := paired_get rb hp
  rw [hj] at e1
  cases e1
  refine ⟨y'.2, by rw [← k1, k2]; exact atKey_of_get hn e2, ?_⟩
  obtain ⟨i, ei⟩ := hi p (List.mem_of_getElem? hp)
  rw [ei] at r1 r2
  obtain ⟨t1, e1⟩ := (show ∃ t, x.2.2 = Value.int i t from r1)
  obtain ⟨t2, e3⟩ := (show ∃ t, y'.2.2 = Value.int i t from r2)
  rw [e1, e3]
  have := SeqAt.EqAt.int_int (A := X.A.in1) (s := s) i t1 i t2
  rwa [beq_self_eq_true] at this
/-- d.pop(k), there -/
theorem mt_popT1 (hu : X.A.units + 1 < cLine) : MtR X "dict.pop" (fun x xs H Q => ∃ (a : Addr) (kvs : List (List Key × V)) (k : List Key) (b : Addr) (v : V), x = .ref a ∧ xs = [.ref b] ∧ H a = some (.dT kvs) ∧ H b = some (.tup (k.map kV)) ∧
    valV kvs k = some v ∧ Q v (upd H a (.dT (dropK kvs k)))) := by
  intro pins s σ H x xs v us Q I rx rxs h
  obtain ⟨a, kvs, k, b, v0, rfl, rfl, ha, hb, ev, q⟩ := h
  cases rx
  obtain ⟨u1, rfl, r1⟩ := vals1 rxs
  cases r1
  obtain ⟨z, hd, xs', rel, dd⟩ := dt_of I.hok ha
  have hz : xs'.length ≤ sizeLine := by rw [← Paired.length rel]; exact z
  have r := rel.val k
  rw [ev] at r
  obtain ⟨w', hw, rw'⟩ := RelO.some_of (v := v0) r
  obtain ⟨p, hp, hp2⟩ := Option.map_eq_some_iff.mp hw
  refine call_pop_heap (hsz := hz) (more := []) (.inl rfl) (PySem.F.args_dict_pop_2 _ _) (tupleKind_room_in1 hu) (key_of I.hok hb) hd dd hp fun h' dd' hs => ?_
  obtain ⟨o, es, ep, hq, h2, h3, h4, _, h5⟩ := dd'
  have I2 : Inv X pins σ (upd H a (.dT (dropK kvs k))) { s with heap := h', toks := s.toks + (tupleKind (mixKind X.prog X.w)).draws k } :=
    d_write I (by rw [ha]; exact True.intro) hs ⟨o, hq⟩ ⟨Nat.le_trans (dropK_le kvs k) z, hd, _, (L2.DX.KT_drop k rel).keeps (fun c ys ec => (by rw [upd_ne (ne_of ec ha (fun z => nomatch z))]; exact ec)), o, es, ep, hq, h2, h3, h4, h5⟩
  rw [hp2]
  exact ⟨v0, _, I2, rw', q⟩
end
end L2
namespace Hs
open PySem PySem.Spec PyProof.Rows L2
theorem _root_.L2.Room.u2 {k : Nat} {A : Around} (r : Room k A) : A.units + 2 < cLine := by have := r.un; omega
theorem PE_or {X : Cx} {e : Expr} {t u : TE} (h1 : PE X e t) (h2 : PE X e u) : PE X e (fun σ H Q => t σ H Q ∨ u σ H Q) := ⟨fun pins s σ H Q I h => h.elim (h1.run pins s σ H Q I) (h2.run pins s σ H Q I)⟩
theorem RpT.kd {K : PySem.W.Frag} {Z : Hp} : ∀ {ks : List (List Key × V)} {r : List (D × D)}, RpT K Z ks r → r.map (·.1) = (ks.map (·.1)).map Hs.keysD
  | _, _, .nil => rfl
  | _, _, .cons h r => by rw [List.map_cons, List.map_cons, List.map_cons, RpT.kd r]
/-- the keys' hashes are all unlike -/
def apartH (r : List (D × D)) : Prop := ∀ (P : Program) (w : World) (ks : List (List Key)), r.map (·.1) = ks.map keysD → (ks.map (tupleKind (mixKind P w)).hash).Nodup
/-- dict(d), dict(pairs), the keys tuples -/
def bDictT : VN := fun ds Q => (∃ r, ds = [.dict ((.none, .none) :: r)] ∧ apartH r ∧ Q (.own (.dc ((.none, .none) :: r)))) ∨
  ∃ r : List (List Key × D), ds = [.list (r.map fun p => .tuple [keysD p.1, p.2])] ∧ (r.map (·.1)).Nodup ∧ Q (.own (.dc ((.none, .none) :: r.map fun p => (keysD p.1, p.2))))
theorem rp_keysD {K : PySem.W.Frag} {Z : Hp} {v : V} {k : List Key} (r : Rp K Z v (keysD k)) : ∃ b, v = .ref b ∧ Z b = some (.tup (k.map kV)) := by
  have r : Rp K Z v (.tuple (k.map keyD)) := r
  cases r with
  | tup h z a =>
    rw [a.keys] at h
    exact ⟨_, rfl, h⟩
theorem rp_pairs {K : PySem.W.Frag} {Z : Hp} : ∀ {r : List (List Key × D)} {vs : List V}, RpAll K Z vs (r.map fun p => .tuple [keysD p.1, p.2]) → ∃ ps : List (Addr × List Key × Addr × V), vs = ps.map (fun p => V.ref p.1) ∧
    (∀ p ∈ ps, Z p.1 = some (.tup [.ref p.2.2.1, p.2.2.2]) ∧ Z p.2.2.1 = some (.tup (p.2.1.map kV))) ∧ ps.map (·.2.1) = r.map (·.1) ∧ RpT K Z (ps.map fun p => (p.2.1, p.2.2.2)) (r.map fun p => (keysD p.1, p.2))
  | [], _, .nil => ⟨[], rfl, fun p h => (nomatch h), rfl, .nil⟩
  | p :: r, _, .cons (v := v) h a => by
    obtain ⟨ps, e1, e2, e3, e4⟩ := rp_pairs a
    generalize e0 : (PyData.tuple [keysD p.1, p.2]) = d at h
    cases h with
    | tup hz z ra =>
      cases e0
      cases ra with
      | cons r1 ra =>
        cases ra with
        | cons r2 ra =>
          cases ra
          obtain ⟨b, rfl, hb⟩ := rp_keysD r1
          refine ⟨(_, p.1, b, _) :: ps, by rw [e1]; rfl, fun q hq => ?_, by rw [List.map_cons, List.map_cons, e3], .cons r2 e4⟩
          rcases List.mem_cons.mp hq with rfl | hq
          · exact ⟨hz, hb⟩
          · exact e2 q hq
    | _ => cases e0
section
variable {X : Cx} {L : Lv} {fg : FG} {wp ws : List Nat} {f1 : FS} {ft : FT} {fa fb fj fx : FE} {pos px : Pos} {x y : Str} {body : List Stmt} {tg j elt : Expr}
theorem fb_dictT (hc : X.calm = true) (hu : X.A.units + 2 < cLine) : CallR X (.type "dict") (rFN X.K bDictT) := by
  intro pins s σ H vs us Q I rv ⟨Z, ds, Qf, hz, rr, g, q⟩
  rcases g with ⟨r, rfl, hap, g⟩ | ⟨r, rfl, hnd, g⟩
  · obtain ⟨v, rfl, r1⟩ := rr.one
    rcases r1.dict hz with ⟨p, ks, rfl, hp, r2⟩ | ⟨p, ks, kvs', rfl, e, hp, r2⟩ | ⟨x0, r2, e, hxn⟩
    · exact r2.mark.elim
    · cases e
      exact call_dictT hu pins s σ H _ us Q I rv ⟨p, ks, rfl, hp, hap _ _ _ r2.kd, fun n hn => q _ _ Z _ (NewR.dc hz hn (.inr ⟨ks, _, rfl, upd_same, r2⟩)) g⟩
    · cases e
      exact (hxn rfl).elim
  · obtain ⟨v, rfl, r1⟩ := rr.one
    obtain ⟨a, vs, rfl, h1, h2, h3⟩ := r1.list hz
    obtain ⟨ps, e1, e2, e3, e4⟩ := rp_pairs h3
    subst e1
    refine call_dictPT hc hu pins s σ H _ us Q I rv ⟨a, ps, rfl, .inl h1, fun p hp => ⟨tupSq (hz _ _ (e2 p hp).1), hz _ _ (e2 p hp).2⟩, by rw [e3]; exact hnd, fun n hn => q _ _ Z _ (NewR.dc hz hn (.inr ⟨_, _, rfl, upd_same, e4⟩)) g⟩
/-- d != e, of the same keys and whole numbers -/
def cNeT : V2 := fun d e Q => cNe d e Q ∨ ∃ r, d = .dict ((.none, .none) :: r) ∧ e = .dict ((.none, .none) :: r) ∧ (∀ p ∈ r, ∃ i, p.2 = .int i) ∧ Q (.d (.bool false))
theorem rpT_one {K : PySem.W.Frag} {Z : Hp} : ∀ {r : List (D × D)} {ks ls : List (List Key × V)}, RpT K Z ks r → RpT K Z ls r → (∀ p ∈ r, ∃ i, p.2 = .int i) → ks = ls ∧ ∀ p ∈ ks, ∃ i, p.2 = V.int i
  | [], _, _, .nil, .nil, _ => ⟨rfl, fun p h => (nomatch h)⟩
  | (kd, d) :: r, k :: ks, l :: ls, h1, h2, hi => by
    generalize e0 : kd = kd' at h2
    cases h1 with
    | cons a1 r1 =>
      cases h2 with
      | cons a2 r2 =>
        obtain ⟨i, ei⟩ := hi _ List.mem_cons_self
        have ei : d = .int i := ei
        subst ei
        obtain ⟨e, h⟩ := rpT_one r1 r2 fun p hp => hi p (List.mem_cons_of_mem _ hp)
        have ek := congrArg (fun d => match d with | PyData.tuple ds => keysN ds | _ => none) e0
        have ek : keysN _ = keysN _ := ek
        rw [keysN_map, keysN_map] at ek
        cases a1
        cases a2
        rw [Option.some.inj ek, e]
        refine ⟨rfl, fun p hp => ?_⟩
        rcases List.mem_cons.mp hp with rfl | hp
        · exact ⟨i, rfl⟩
        · exact h p (by rw [e]; exact hp)
theorem fop_neT (hu : X.A.units + 64 < cLine) : OpR X (compareOp .NotEq) (rF2 X.K cNeT) := by
  intro pins s σ H x y v u Q I rx ry ⟨Z, d, e, Qf, hz, hd, he, g, q⟩
  rcases g with g | ⟨r, rfl, rfl, hi, g⟩
  · exact fop_ne hu pins s σ H x y v u Q I rx ry ⟨Z, d, e, Qf, hz, hd, he, g, q⟩
  · rcases hd.dict hz with ⟨p, ks, rfl, hp, r2⟩ | ⟨p, ks, kvs', rfl, e, hp, r2⟩ | ⟨x0, r2, e, hxn⟩
    · exact r2.mark.elim
    · cases e
      rcases he.dict hz with ⟨p', ls, rfl, hp', r3⟩ | ⟨p', ls, kvs', rfl, e, hp', r3⟩ | ⟨x0, r3, e, hxn⟩
      · exact r3.mark.elim
      · cases e
        obtain ⟨rfl, h⟩ := rpT_one r2 r3 hi
        exact op_ne_dictT (by omega) pins s σ H _ _ v u Q I rx ry ⟨p, p', ks, rfl, rfl, hp, hp', h, q _ H Z _ (.d hz (.bl _)) g⟩
      · cases e
        exact (hxn rfl).elim
    · cases e
      exact (hxn rfl).elim
/-- d.get(k, x), d one that nobody changes -/
def fDGet3 (i : Nat) (j x : FE) : FE := fun X s Q => ∃ r, s.getD i .no = .d (.dict ((.none, .none) :: r)) ∧ j X s fun rj s1 => x X s1 fun rx s2 => frzAll [rj, rx] s2 fun ds s3 => s3.getD i .no = .d (.dict ((.none, .none) :: r)) ∧ match ds with
  | [k, d] => dGet ((.none, .none) :: r) k fun o => Q (.d (o.getD d)) s3
  | _ => False
theorem Rel.slotD {K : PySem.W.Frag} {Z Y H : Hp} {σ : St} {s : S} (r : Rel K Z Y H σ s) {i : Nat} {d : D} (e : s.getD i .no = .d d) : ∃ u, σ.getD i none = some u ∧ Rp K Z u d := by
  obtain ⟨F, q⟩ := r.slot i
  rw [e] at q
  obtain ⟨_, u, h1, h2⟩ := q
  exact ⟨u, h1, h2⟩
theorem pf_dget3 (i : Nat) {apos cpos : Pos} {e : Expr} (hu : X.A.units + 1 < cLine) (ho : PE X (.Name y px) (tVar i)) (hj : PF X L j fj) (hx : PF X L e fx) (m : M2 X (.Name y px) "get" apos j e cpos) :
    PF X L (.Call (.Attribute (.Name y px) "get" apos) [j, e] [] cpos) (fDGet3 i fj fx) := PE_imp (pe_dget2 hu ho hj hx m) fun σ H Q ⟨Z, Y, s, Xf, Qf, r, k, xo, h, q⟩ => by
  obtain ⟨kvs, e0, h⟩ := h
  obtain ⟨u, hv, hr⟩ := r.slotD e0
  obtain ⟨p, rfl, hd⟩ : ∃ p, u = .ref p ∧ IsD H p := by
    rcases RpV.dict (.inl hr) r.zh with ⟨p, ks, rfl, hp, r2⟩ | ⟨p, ks, kvs', rfl, e2, hp, r2⟩ | ⟨x0, r2, e2, hxn⟩
    · exact ⟨p, rfl, .inl ⟨ks, hp⟩⟩
    · exact ⟨p, rfl, .inr ⟨ks, hp⟩⟩
    · cases e2
      exact (hxn rfl).elim
  refine ⟨.ref p, getD_some hv, p, rfl, hd, Z, Y, s, Xf, _, r, k, xo, h, fun y H1 Z1 rj s1 hz rx h1 => ?_⟩
  obtain ⟨Y', hy, rl, bk, fw⟩ := rx.frame
  refine ⟨Z1, Y', s1, Xf, _, rl, k, (xo.z hz).mono (Same.refl _) bk, h1, fun z H2 Z2 rz s2 hz2 rx2 h2 => ?_⟩
  have rx3 := fw Z2 H2 s2 [z] [rz] hz2 rx2
  obtain ⟨Z3, ds, s3, hz3, rx4, h3⟩ := frzAll_ok (us := []) (ds := []) rx3 rfl h2
  have ra := rx4.rps
  obtain ⟨e3, h3⟩ := h3
  split at h3
  · obtain ⟨u', hv', hr'⟩ := rx4.rel0.slotD e3
    rw [hv] at hv'
    cases hv'
    cases ra with
    | cons rk ra =>
      cases ra with
      | cons rd _ =>
        obtain ⟨a, o, d, e5, dg, ro, h5⟩ := dGet_ok (K := X.K) rx4.rel0.zh (.inl hr') (.inl rk) h3
        cases e5
        refine ⟨o, dg, q _ H2 Z3 _ s3 ((hz.trans hz2).trans hz3) (.d rx4.rel0 ?_) h5⟩
        cases o <;> cases d <;> first | exact rd | exact ro | exact ro.elim
  · exact h3.elim
/-- d.pop(k), there -/
def dropT (r : List (D × D)) (k : List Key) : List (D × D) := r.filter fun p => !sameT p.1 k
def fPopD (i : Nat) (j : FE) : FE := fun X s Q => onDc i s fun _ => j X s fun rj s1 => frzAll [rj] s1 fun ds s2 => match ds with
  | [.tuple kd] => match keysN kd with
    | some ks => onDc i s2 fun kvs => match kvs with
      | (.none, .none) :: r => ∃ d, (r.find? fun p => sameT p.1 ks).map (·.2) = some d ∧ Q (.d d) (s2.set i (.dc ((.none, .none) :: dropT r ks)))
      | _ => False
    | none => False
  | _ => False
theorem RpT.drop {K : PySem.W.Frag} {Z : Hp} (k : List Key) : ∀ {ks : List (List Key × V)} {r : List (D × D)}, RpT K Z ks r → RpT K Z (dropK ks k) (dropT r k)
  | _, _, .nil => .nil
  | _, _, .cons (k := l) (v := v) (ks := ks) (d := d) (kvs := kvs) h t => by
    have ih := RpT.drop k t
    by_cases e : l = k
    · have z1 : dropK ((l, v) :: ks) k = dropK ks k := List.filter_cons_of_neg (by simp [e])
      have z2 : dropT ((keysD l, d) :: kvs) k = dropT kvs k := List.filter_cons_of_neg (by simp [sameT_keysD, e])
      rw [z1, z2]; exact ih
    · have z1 : dropK ((l, v) :: ks) k = (l, v) :: dropK ks k := List.filter_cons_of_pos (by simp [e])
      have z2 : dropT ((keysD l, d) :: kvs) k = (keysD l, d) :: dropT kvs k := List.filter_cons_of_pos (by simp [sameT_keysD, e])
      rw [z1, z2]; exact .cons h ih
theorem pf_popD (i : Nat) {apos cpos : Pos} (hu : X.A.units + 1 < cLine) (ho : PE X (.Name y px) (tVar i)) (hj : PF X L j fj)
    (hbase : attributeBase (.Name y px) "pop" X.env (eval (.Name y px) X.env) = eval (.Name y px) X.env := by rfl)
    (hfew : ((backTo cpos (starEach [j] X.env)).all (fun x => !x.1) && (backToKw cpos (keywordEach [] X.env)).all (fun x => x.1.isSome)
      && decide ([j].length + ([] : List Keyword).length + (if ([] : List Keyword).isEmpty then 0 else 1) < 30)) = true := by rfl)
    (hline : (apos.endLine == cpos.line) = true := by rfl) (hs : starEach [j] X.env = (false, eval j X.env) :: starEach [] X.env := by rfl) :
    PF X L (.Call (.Attribute (.Name y px) "pop" apos) [j] [] cpos) (fPopD i fj) :=
  PE_imp (pe_bm PySem.F.plainAttrs_dict PySem.F.slot_dict_pop PySem.F.type_dict_pop (mt_popT1 hu) ho (pa_cons hj pa_nil hs) hbase hfew hline hs rfl) fun σ H Q ⟨Z, Y, s, Xf, Qf, r, k, xo, h, q⟩ => by
  obtain ⟨kvs0, e0, h⟩ := onDc_ok h
  obtain ⟨p, hv, hd0⟩ := r.slotDc e0
  refine ⟨.ref p, getD_some hv, ?_, Z, Y, s, Xf, _, r, k, xo, h, fun w H1 Z1 rj s1 hz rx h1 => ?_⟩
  · rcases hd0 with ⟨ks, e1, _⟩ | ⟨ks, _, _, e1, _⟩
    · exact .inr (.inr (.inl ⟨rfl, .inl ⟨ks, e1⟩⟩))
    · exact .inr (.inr (.inl ⟨rfl, .inr ⟨ks, e1⟩⟩))
  obtain ⟨Z2, ds, s2, hz2, rx2, h2⟩ := frzAll_ok (us := []) (ds := []) rx rfl h1
  have ra := rx2.rps
  split at h2
  · split at h2
    · rename_i kd ks ek
      obtain ⟨kvs, e2, h3⟩ := onDc_ok h2
      obtain ⟨p', hv', hd⟩ := rx2.rel0.slotDc e2
      rw [hv] at hv'
      cases hv'
      cases ra with
      | cons rk _ =>
        rw [keysN_eq ek] at rk
        obtain ⟨b, rfl, hb⟩ := RpV.keys (H := H1) (.inl rk) rx2.rel0.zh
        split at h3
        · obtain ⟨d, ed, h4⟩ := h3
          rcases hd with ⟨kk, e1, r1⟩ | ⟨kk, kvs', e1, e3, r1⟩
          · exact r1.mark.elim
          · cases e1
            have ro := r1.get ks
            rw [ed] at ro
            cases ev : valV kk ks with
            | none => rw [ev] at ro; exact ro.elim
            | some v0 =>
              rw [ev] at ro
              refine ⟨p, kk, ks, b, v0, rfl, rfl, e3, hb, ev, ?_⟩
              have w := rx2.rel0.writeDc (i := i) (ob := .dT (dropK kk ks)) (kvs' := (.none, .none) :: dropT _ ks) e2 hv (.inr ⟨_, _, rfl, upd_same, r1.drop ks⟩)
              exact q _ _ Z2 _ _ (hz.trans hz2) (.d w ro) h4
        · exact h3.elim
    · exact h2.elim
  · exact h2.elim
/-- for k in d, the keys tuples -/
def szT (r : List (D × D)) : Prop := ∀ p ∈ r, ∃ ns : List Int, p.1 = tupI ns ∧ ns.length ≤ sizeLine
theorem szT_keys {K : PySem.W.Frag} {Z : Hp} : ∀ {ks : List (List Key × V)} {r : List (D × D)}, RpT K Z ks r → szT r → ∀ k v, (k, v) ∈ ks → k.length ≤ sizeLine
  | _, _, .nil, _, k, v, h => nomatch h
  | _, _, .cons (k := l) h t, hs, k, v, hm => by
    rcases List.mem_cons.mp hm with e | hm
    · cases e
      obtain ⟨ns, e1, e2⟩ := hs _ List.mem_cons_self
      rw [keysD_inj e1, List.length_map]; exact e2
    · exact szT_keys t (fun p hp => hs p (List.mem_cons_of_mem _ hp)) k v hm
def fForT (i : Nat) (fg : FG) (wp : List Nat) (b : FS) : FS := fun E s => match asD (s.getD i .no) with
  | some (.dict ((.none, .none) :: r)) => szT r ∧ fLoop fg wp b { E with xx := fun _ _ => False } (r.map (·.1)) (wipeS (s.set i (.d (.dict ((.none, .none) :: r)))) wp)
  | _ => False
/-- [.. for k in d], the keys tuples -/
def fLcT (i : Nat) (fg : FG) (wp : List Nat) (t : FT) (e : FE) : FE := fun _ s Q => match asD (s.getD i .no) with
  | some (.dict ((.none, .none) :: r)) => szT r ∧ r.length ≤ sizeLine ∧ fComp (fun _ _ => False) fg wp t e Q (r.map (·.1)) [] (wipeS (s.set i (.d (.dict ((.none, .none) :: r)))) wp)
  | _ => False
/-- a dict with tuple keys is locked: what stands behind, unlocked -/
theorem lockT {K : PySem.W.Frag} {Z Y H : Hp} {σ : St} {s : S} {d : Addr} {ks : List (List Key × V)} (od : Obj) (r : Rel K Z Y H σ s) (hr : Z d = some (.dT ks)) :
    Rel K (upd Z d (.frz od (.dT ks))) Y (upd H d (.frz od (.dT ks))) σ s ∧ Lk K Z (upd Z d (.frz od (.dT ks))) ∧ ∀ σ' H' Z' s', Same (upd Z d (.frz od (.dT ks))) Z' → Rel K Z' Y H' σ' s' → H' d = some (.frz od (.dT ks)) ∧ Same Z (upd Z' d (.dT ks)) ∧ Rel K (upd Z' d (.dT ks)) Y (upd H' d (.dT ks)) σ' s' := by
  have lk := lk_lockT (K := K) (o := od) hr
  refine ⟨r.lk lk (by rw [hr]; exact fun z => nomatch z) (fun a ha => upd_ne ha) (fun a ha => upd_ne ha) (by rw [upd_same, upd_same]), lk, fun σ' H' Z' s' hz rl => ?_⟩
  have zd : Z' d = some (.frz od (.dT ks)) := hz _ _ upd_same
  refine ⟨rl.zh _ _ zd, fun b q e => ?_, rl.lk (lk_unlockT zd) (by rw [zd]; exact fun z => nomatch z) (fun a ha => upd_ne ha) (fun a ha => upd_ne ha) (by rw [upd_same, upd_same])⟩
  by_cases hb : b = d
  · subst hb; rw [upd_same, ← hr]; exact e
  · rw [upd_ne hb]
    exact hz _ _ (by rw [upd_ne hb]; exact e)
theorem dictT_of {K : PySem.W.Frag} {Z Y H : Hp} {σ : St} {s : S} {i : Nat} {r : List (D × D)} (rl : Rel K Z Y H σ s) (e : s.getD i .no = .d (.dict ((.none, .none) :: r))) : ∃ d ks, σ[i]? = some (some (.ref d)) ∧ Rd Z d (.dT ks) ∧ RpT K Z ks r := by
  obtain ⟨u, hv, hr⟩ := rl.slotD e
  generalize e0 : (PyData.dict ((.none, .none) :: r)) = dd at hr
  cases hr with
  | dcT hd a => cases e0; exact ⟨_, _, getD_some hv, hd, a⟩
  | dcK hd a => cases e0; exact a.mark.elim
  | lit hd z => cases e0
  | exc hd => cases e0
  | tf hd _ _ _ => cases e0
  | obj hd _ _ => cases e0
  | _ => cases e0
theorem pfs_forT (i : Nat) (hp : PassesOwn (model X.prog X.w) X.A X.env X.xe) (hc : X.calm = true) (hv : PE X (.Name x px) (tVar i)) (hg : PFG X L ws tg fg) (hb : PFSs X L body f1)
    (hs : ∀ y, foldedSetIterable (.Name x px) X.env y = pure y := by intro _; rfl) : PFS X L (.For tg (.Name x px) body [] pos) (fForT i fg wp f1) :=
  have base := ps_for (pos := pos) hp hc (pi_keys (tg := tg) hv) hg hb hs
  PS_imp (PS_or base (ps_lock base)) fun D0 σ H ⟨Z0, Y, s0, Ef, r0, k, h, eo0⟩ => by
  unfold fForT at h
  split at h
  · rename_i kvs0 es0
    obtain ⟨hsz, h⟩ := h
    obtain ⟨Z, hz0, r⟩ := r0.freeze es0
    have hi0 : i < s0.length := by
      by_cases hi : i < s0.length
      · exact hi
      · rw [getD_out (by omega)] at es0; cases es0
    have es : (s0.set i (.d (.dict ((.none, .none) :: kvs0)))).getD i .no = .d (.dict ((.none, .none) :: kvs0)) := getD_set_self hi0
    have eo : EndsOk X L Z Y Ef D0 := ⟨fun σ' H' Z2 s' h2 => eo0.nx σ' H' Z2 s' (hz0.trans h2), fun v σ' H' Z2 q s' h2 => eo0.rt v σ' H' Z2 q s' (hz0.trans h2), fun σ' H' Z2 s' h2 => eo0.bk σ' H' Z2 s' (hz0.trans h2), fun σ' H' Z2 s' h2 => eo0.ct σ' H' Z2 s' (hz0.trans h2), eo0.xx.z hz0⟩
    generalize s0.set i (.d (.dict ((.none, .none) :: kvs0))) = s at r es h
    obtain ⟨d, ks, hu2, hr, a⟩ := dictT_of r es
    rcases hr with hr | ⟨o, hr⟩
    · refine .inr ⟨d, .dT ks, r.zh _ _ hr, True.intro, fun od => ?_⟩
      obtain ⟨r1, lk, back⟩ := lockT od r hr
      have wk := walks_keysT (K := X.K) (Z := upd Z d (.frz od (.dT ks))) (d := d) (o := od) a.length upd_same (szT_keys a hsz) (RpT.lkM lk _ _ a)
      refine ⟨.ref d, hu2, d, od, rfl, .inr ⟨ks, upd_same, ?_⟩⟩
      exact loop_core r1 k (Ef := { Ef with xx := fun _ _ => False }) ⟨fun σ' H' Z' s' hz k' rl hq => let ⟨e1, s2, r2⟩ := back σ' H' Z' s' hz rl; ⟨e1, eo.nx σ' _ _ s' s2 k' r2 hq⟩,
          fun v σ' H' Z' q s' hz k' rx hq => let ⟨e1, s2, r2⟩ := back _ H' Z' _ hz rx.rel; ⟨e1, eo.rt v σ' _ _ q s' s2 k' ⟨r2, rx.l1, rx.l2, rx.top⟩ hq⟩,
          fun σ' H' Z' s' hz k' rl hq => let ⟨e1, s2, r2⟩ := back σ' H' Z' s' hz rl; ⟨e1, eo.bk σ' _ _ s' s2 k' r2 hq⟩,
          fun σ' H' Z' s' hz k' rl hq => let ⟨e1, s2, r2⟩ := back σ' H' Z' s' hz rl; ⟨e1, eo.ct σ' _ _ s' s2 k' r2 hq⟩, fun _ _ _ _ _ _ _ _ _ z _ => z.elim⟩ wk h
    · refine .inl ⟨.ref d, hu2, d, o, rfl, .inr ⟨ks, r.zh _ _ hr, ?_⟩⟩
      exact loop_core r k (Ef := { Ef with xx := fun _ _ => False }) (D0 := D0) ⟨eo.nx, eo.rt, eo.bk, eo.ct, fun _ _ _ _ _ _ _ _ _ z _ => z.elim⟩ (walks_keysT a.length hr (szT_keys a hsz) a) h
  · exact h.elim
theorem pf_lcT (i : Nat) {ifs : List Expr} {scope : Scope} {own : List (Str × Nat)} (hc : X.calm = true) (hN : X.N.Nodup) (hn : PE X (.Name x px) (tVar i)) (ok : BlkOk X.N X.env.scope scope own)
    (hg : ∀ (s : Shared) (H : Hp) (C : Addr) (cl : List (Str × Addr)) (fp : List Addr), PFG (X.blk s H scope (compEnvC scope cl C X.env) fp) L.in0 (own.map fun p : Str × Nat => p.2) tg fg) (ht : ∀ (s : Shared) (H : Hp) (C : Addr) (cl : List (Str × Addr)) (fp : List Addr), PFTs (X.blk s H scope (compEnvC scope cl C X.env) fp) L.in0 ifs ft)
    (he : ∀ (s : Shared) (H : Hp) (C : Addr) (cl : List (Str × Addr)) (fp : List Addr), PF (X.blk s H scope (compEnvC scope cl C X.env) fp) L.in0 elt fa) (hv : ∀ j ∈ (own.map fun p : Str × Nat => p.2), j ∉ L.io := by exact of_decide_eq_true rfl) (hs : ∀ z, foldedSetIterable (.Name x px) X.env z = pure z := by intro _; rfl) :
    PF X L (.ListComp elt [⟨tg, .Name x px, ifs, 0⟩] scope pos) (fLcT i fg (own.map fun p : Str × Nat => p.2) ft fa) :=
  have base := pe_lc (pos := pos) (own := own) (g := liftG X L.in0 (own.map fun p : Str × Nat => p.2) fg) (tt := liftT X L.in0 ft) (te := liftE X L.in0 fa) hc hN (pi_keys (tg := tg) hn) ok hg (fun s H C cl fp => (ht s H C cl fp).h) he hs
  PE_imp (PE_or base (pe_lock base)) fun σ H Q ⟨Z0, Y, s0, Xf, Qf, r0, k, xo, h, q⟩ => by
  unfold fLcT at h
  split at h
  · rename_i kvs0 es0
    obtain ⟨hsz, hlen, h⟩ := h
    obtain ⟨Z, hz0, r⟩ := r0.freeze es0
    have hi0 : i < s0.length := by
      by_cases hi : i < s0.length
      · exact hi
      · rw [getD_out (by omega)] at es0; cases es0
    have es : (s0.set i (.d (.dict ((.none, .none) :: kvs0)))).getD i .no = .d (.dict ((.none, .none) :: kvs0)) := getD_set_self hi0
    generalize s0.set i (.d (.dict ((.none, .none) :: kvs0))) = s at r es h
    obtain ⟨d, ks, hu2, hr, a⟩ := dictT_of r es
    rcases hr with hr | ⟨o, hr⟩
    · refine .inr ⟨d, .dT ks, r.zh _ _ hr, True.intro, fun od => ?_⟩
      obtain ⟨r1, lk, back⟩ := lockT od r hr
      have wk := walks_keysT (K := X.K) (Z := upd Z d (.frz od (.dT ks))) (d := d) (o := od) a.length upd_same (szT_keys a hsz) (RpT.lkM lk _ _ a)
      refine ⟨.ref d, hu2, d, od, rfl, .inr ⟨ks, upd_same, fun D hD => ?_⟩⟩
      refine lc_run (Q := fun v H' => H' d = some (.frz od (.dT ks)) ∧ Q v (upd H' d (.dT ks))) hv k (Same.refl _) r1 wk (by rw [List.length_map]; exact hlen) h (fun u H' Z' rr s' hz rx hq => ?_) D hD
      obtain ⟨e1, s2, r2⟩ := back _ H' Z' _ hz rx.rel
      exact ⟨e1, q u _ _ rr s' (hz0.trans s2) ⟨r2, rx.l1, rx.l2, rx.top⟩ hq⟩
    · refine .inl ⟨.ref d, hu2, d, o, rfl, .inr ⟨ks, r.zh _ _ hr, fun D hD => ?_⟩⟩
      exact lc_run hv k hz0 r (walks_keysT a.length hr (szT_keys a hsz) a) (by rw [List.length_map]; exact hlen) h q D hD
  · exact h.elim
end
end Hs
namespace Lk23
open PySem PySem.Spec PyProof.Rows L2 Hs
def b__law_acell : FS := fSeq (fIfS (fB (fOp cLt (fVar 1) (fBlt bLen (fCons (fVar 0) (fNil))))) (fRet (fOp ixD2 (fVar 0) (fVar 1))) (fNext))
    (fRet (fC (.int 0)))
def m__law_acell : FSem := semOf 2 2 b__law_acell
def b__law_atape : FS := fSeq (fAsg 2 (fCall m__law_acell [false, false] (fCons (fVar 0) (fCons (fVar 1) (fNil)))))
    (fSeq (fIfS (fB (fOp cEq (fOp opMod (fVar 2) (fC (.int 2))) (fC (.int 0)))) (fRet (fLst (fCons (fOp opFdiv (fVar 2) (fC (.int 2))) (fNil)))) (fNext))
    (fSeq (fAsg 3 (fC (.int 2305843009213693951)))
    (fSeq (fAsg 4 (fC (.int 0)))
    (fSeq (fAsg 5 (fOp opMod (fOp opAdd (fOp opAdd (fOp opMul (fOp opMod (fVar 2) (fVar 3)) (fC (.int 48271))) (fOp opMul (fC (.int 69621)) (fVar 1))) (fC (.int 11))) (fVar 3)))
    (fSeq (fFor (iRange1 (fCons (fC (.int 9)) (fNil))) (gNm 6) [6] (fSeq (fAsg 4 (fOp opAdd (fOp opMul (fVar 4) (fVar 3)) (fVar 5)))
    (fAsg 5 (fOp opMod (fOp opAdd (fOp opAdd (fOp opMul (fVar 5) (fVar 5)) (fOp opMul (fC (.int 40692)) (fVar 1))) (fVar 6)) (fVar 3)))))
    (fRet (fLst (fCons (fVar 4) (fNil)))))))))
def m__law_atape : FSem := semOf 2 7 b__law_atape
def b__law_adigit : FS := fSeq (fAsg 2 (fOp opMod (fOp ixD2 (fVar 0) (fC (.int 0))) (fVar 1)))
    (fSeq (fSetIx 0 (fC (.int 0)) (fOp opFdiv (fOp ixD2 (fVar 0) (fC (.int 0))) (fVar 1)))
    (fRet (fVar 2)))
def m__law_adigit : FSem := semOf 2 3 b__law_adigit
def b__law_aweb : FS := fSeq (fAsg 2 (fCall m__law_adigit [true, false] (fCons (fVar 0) (fCons (fOp opAdd (fVar 1) (fC (.int 1))) (fNil)))))
    (fSeq (fAsg 3 (fOp opAdd (fC (.int 1)) (fCall m__law_adigit [true, false] (fCons (fVar 0) (fCons (fC (.int 5)) (fNil))))))
    (fSeq (fAsg 4 (fLst (fNil)))
    (fSeq (fFor (iRange1 (fCons (fVar 2) (fNil))) (gNm 5) [5, 6] (fFor (iRange2 (fCons (fOp opAdd (fVar 5) (fC (.int 1))) (fCons (fVar 2) (fNil)))) (gNm 6) [6] (fIfS (fB (fOp cLt (fCall m__law_adigit [true, false] (fCons (fVar 0) (fCons (fC (.int 6)) (fNil)))) (fVar 3))) (fDrop (fLm 4 mAppend (fCons (fTup (fCons (fVar 5) (fCons (fVar 6) (fNil)))) (fNil)))) (fNext))))
    (fRet (fTup (fCons (fVar 2) (fCons (fBlt bTuple (fCons (fVar 4) (fNil))) (fNil))))))))
def m__law_aweb : FSem := semOf 2 7 b__law_aweb
def b_is_whole : FS := fRet (fAndV (fUn (bIs "int") (fVar 0)) (fNotV (fUn (bIs "bool") (fVar 0))))
def m_is_whole : FSem := semOf 1 1 b_is_whole
def b_is_below : FS := fRet (fAndV (fCall m_is_whole [false] (fCons (fVar 0) (fNil))) (fChain cLe cLt (fC (.int 0)) (fVar 0) (fVar 1)))
def m_is_below : FSem := semOf 2 2 b_is_below
def b_is_rising : FS := fRet (fBlt bAll (fCons (fLc (iRange1 (fCons (fOp opSub (fBlt bLen (fCons (fVar 0) (fNil))) (fC (.int 1))) (fNil))) (gNm 1) [1] (fYes) (fOp cLt (fOp ixD2 (fVar 0) (fVar 1)) (fOp ixD2 (fVar 0) (fOp opAdd (fVar 1) (fC (.int 1)))))) (fNil)))
def m_is_rising : FSem := semOf 1 2 b_is_rising
def b_is_tie : FS := fSeq (fIfS (fOr (fNot (fB (fUn (bIs "tuple") (fVar 1)))) (fB (fOp cNe (fBlt bLen (fCons (fVar 1) (fNil))) (fC (.int 2))))) (fRet (fC (.bool false))) (fNext))
    (fRet (fAndV (fCall m_is_below [false, false] (fCons (fOp ixD2 (fVar 1) (fC (.int 0))) (fCons (fVar 0) (fNil)))) (fAndV (fCall m_is_below [false, false] (fCons (fOp ixD2 (fVar 1) (fC (.int 1))) (fCons (fVar 0) (fNil)))) (fOp cLt (fOp ixD2 (fVar 1) (fC (.int 0))) (fOp ixD2 (fVar 1) (fC (.int 1)))))))
def m_is_tie : FSem := semOf 2 2 b_is_tie
def b_are_ties : FS := fSeq (fIfS (fOr (fNot (fB (fUn (bIs "tuple") (fVar 1)))) (fNot (fB (fBlt bAll (fCons (fLc (iSeq (fVar 1)) (gNm 2) [2] (fYes) (fCall m_is_tie [false, false] (fCons (fVar 0) (fCons (fVar 2) (fNil))))) (fNil)))))) (fRet (fC (.bool false))) (fNext))
    (fRet (fCall m_is_rising [false] (fCons (fVar 1) (fNil))))
def m_are_ties : FSem := semOf 2 3 b_are_ties
def b_is_web : FS := fSeq (fIfS (fOr (fNot (fB (fUn (bIs "tuple") (fVar 0)))) (fB (fOp cNe (fBlt bLen (fCons (fVar 0) (fNil))) (fC (.int 2))))) (fRet (fC (.bool false))) (fNext))
    (fRet (fAndV (fCall m_is_below [false, false] (fCons (fOp ixD2 (fVar 0) (fC (.int 0))) (fCons (fOp opAdd (fC (.int 10)) (fC (.int 1))) (fNil)))) (fCall m_are_ties [false, false] (fCons (fOp ixD2 (fVar 0) (fC (.int 0))) (fCons (fOp ixD2 (fVar 0) (fC (.int 1))) (fNil))))))
def m_is_web : FSem := semOf 1 1 b_is_web
def b_need_web : FS := fIfS (fNot (fB (fCall m_is_web [false] (fCons (fVar 0) (fNil))))) (fRaise "NoWeb") (fNext)
def m_need_web : FSem := semOf 1 1 b_need_web
def b_all_sets : FS := fSeq (fAsg 1 (fLst (fCons (fTup (fNil)) (fNil))))
    (fSeq (fFor (iRange1 (fCons (fVar 0) (fNil))) (gNm 2) [2, 3] (fAsg 1 (fOp opAdd (fVar 1) (fLc (iSeq (fVar 1)) (gNm 3) [3] (fYes) (fOp opAdd (fVar 3) (fTup (fCons (fVar 2) (fNil))))))))
    (fRet (fVar 1)))
def m_all_sets : FSem := semOf 1 4 b_all_sets
def b_without : FS := fRet (fBlt bTuple (fCons (fLc (iSeq (fVar 0)) (gNm 2) [2] (fB (fOp cNotInK (fVar 2) (fVar 1))) (fVar 2)) (fNil)))
def m_without : FSem := semOf 2 3 b_without
def b_tied_in : FS := fRet (fOp cInK (fTup (fCons (fBlt bMin2 (fCons (fVar 1) (fCons (fVar 2) (fNil)))) (fCons (fBlt bMax2 (fCons (fVar 1) (fCons (fVar 2) (fNil)))) (fNil)))) (fOp ixD2 (fVar 0) (fC (.int 1))))
def m_tied_in : FSem := semOf 3 3 b_tied_in
def b_first_parts : FS := fSeq (fAsg 2 (fLst (fCons (fSl slD (fVar 1) (fNoPart) (fPart (fC (.int 1)))) (fNil))))
    (fSeq (fFor (iSeq (fSl slD (fVar 1) (fPart (fC (.int 1))) (fNoPart))) (gNm 3) [3, 4, 5, 6] (fSeq (fAsg 4 (fLc (iSeq (fVar 2)) (gNm 5) [5] (fNot (fB (fBlt bAny (fCons (fLc (iSeq (fVar 5)) (gNm 6) [6] (fYes) (fCall m_tied_in [false, false, false] (fCons (fVar 0) (fCons (fVar 6) (fCons (fVar 3) (fNil)))))) (fNil))))) (fOp opAdd (fVar 5) (fTup (fCons (fVar 3) (fNil))))))
    (fAsg 2 (fOp opAdd (fVar 2) (fVar 4)))))
    (fRet (fVar 2)))
def m_first_parts : FSem := semOf 2 7 b_first_parts
def b_floors_in : FS := fSeq (fAsg 1 fEmT)
    (fSeq (fFor (iSeq (fCall m_all_sets [false] (fCons (fOp ixD2 (fVar 0) (fC (.int 0))) (fNil)))) (gNm 2) [2, 3] (fIfS (fB (fOp cEq (fVar 2) (fTup (fNil)))) (fSetD 1 (fVar 2) (fC (.int 0))) (fSetD 1 (fVar 2) (fOp opAdd (fC (.int 1)) (fBlt bMinL (fCons (fLc (iSeq (fCall m_first_parts [false, false] (fCons (fVar 0) (fCons (fVar 2) (fNil))))) (gNm 3) [3] (fYes) (fOp ixD2 (fVar 1) (fCall m_without [false, false] (fCons (fVar 2) (fCons (fVar 3) (fNil)))))) (fNil)))))))
    (fRet (fVar 1)))
def m_floors_in : FSem := semOf 1 4 b_floors_in
def b_hues_by : FS := fSeq (fAsg 2 (fLc (iRange1 (fCons (fOp ixD2 (fVar 0) (fC (.int 0))) (fNil))) (gNm 3) [3] (fYes) (fC (.int 0))))
    (fSeq (fAsg 4 (fRg1 mkT (fOp ixD2 (fVar 0) (fC (.int 0)))))
    (fSeq (fAsg 5 (fC (.int 0)))
    (fSeq (fWhile [3, 6, 7] (fB (fOp cNe (fVar 4) (fTup (fNil)))) (fSeq (fAsg 6 (fLc (iSeq (fCall m_first_parts [false, false] (fCons (fVar 0) (fCons (fVar 4) (fNil))))) (gNm 7) [7] (fB (fOp cEq (fOp ixD2 (fVar 1) (fCall m_without [false, false] (fCons (fVar 4) (fCons (fVar 7) (fNil))))) (fOp opSub (fOp ixD2 (fVar 1) (fVar 4)) (fC (.int 1))))) (fVar 7)))
    (fSeq (fFor (iSeq (fOp ixD2 (fVar 6) (fC (.int 0)))) (gNm 3) [3] (fSetIx 2 (fVar 3) (fVar 5)))
    (fSeq (fAsg 4 (fCall m_without [false, false] (fCons (fVar 4) (fCons (fOp ixD2 (fVar 6) (fC (.int 0))) (fNil)))))
    (fAsg 5 (fOp opAdd (fVar 5) (fC (.int 1))))))))
    (fRet (fBlt bTuple (fCons (fVar 2) (fNil)))))))
def m_hues_by : FSem := semOf 2 8 b_hues_by
def b_fewest_in : FS := fSeq (fAsg 1 (fCall m_floors_in [false] (fCons (fVar 0) (fNil))))
    (fRet (fTup (fCons (fOp ixD2 (fVar 1) (fRg1 mkT (fOp ixD2 (fVar 0) (fC (.int 0))))) (fCons (fCall m_hues_by [false, false] (fCons (fVar 0) (fCons (fVar 1) (fNil)))) (fCons (fVar 1) (fNil))))))
def m_fewest_in : FSem := semOf 1 2 b_fewest_in
def b_fewest : FS := fSeq (fDrop (fCall m_need_web [false] (fCons (fVar 0) (fNil))))
    (fRet (fCall m_fewest_in [false] (fCons (fVar 0) (fNil))))
def m_fewest : FSem := semOf 1 1 b_fewest
def b_are_hues : FS := fSeq (fDrop (fCall m_need_web [false] (fCons (fVar 0) (fNil))))
    (fSeq (fIfS (fOr (fB (fOp cNe (fBlt bLen (fCons (fVar 1) (fNil))) (fOp ixD2 (fVar 0) (fC (.int 0))))) (fNot (fB (fBlt bAll (fCons (fLc (iSeq (fVar 1)) (gNm 2) [2] (fYes) (fOp cGe (fVar 2) (fC (.int 0)))) (fNil)))))) (fRet (fC (.bool false))) (fNext))
    (fRet (fBlt bAll (fCons (fLc (iSeq (fOp ixD2 (fVar 0) (fC (.int 1)))) (gTp [gNm 3, gNm 4]) [3, 4] (fYes) (fOp cNe (fOp ixD2 (fVar 1) (fVar 3)) (fOp ixD2 (fVar 1) (fVar 4)))) (fNil)))))
def m_are_hues : FSem := semOf 2 5 b_are_hues
def b__law_ahues_right : FS := fSeq (fFor (iRange1 (fCons (fC (.int 6)) (fNil))) (gNm 3) [3, 4, 5, 6, 7, 8, 9, 10] (fSeq (fAsg 4 (fBlt bList (fCons (fVar 2) (fNil))))
    (fSeq (fAsg 5 (fCall m__law_adigit [true, false] (fCons (fVar 0) (fCons (fOp opAdd (fBlt bLen (fCons (fVar 2) (fNil))) (fC (.int 1))) (fNil)))))
    (fSeq (fIfS (fAnd (fB (fOp cGt (fVar 3) (fC (.int 0)))) (fB (fOp cLt (fVar 5) (fBlt bLen (fCons (fVar 4) (fNil)))))) (fSetIx 4 (fVar 5) (fOp ixD2 (fLst (fCons (fC (.int 0)) (fCons (fC (.int 1)) (fCons (fC (.int 2)) (fCons (fUn uNeg (fC (.int 1))) (fCons (fC (.int 100000000000000000000)) (fNil))))))) (fCall m__law_adigit [true, false] (fCons (fVar 0) (fCons (fC (.int 5)) (fNil)))))) (fNext))
    (fSeq (fIfS (fB (fOp cEq (fVar 3) (fC (.int 5)))) (fAsg 4 (fOp opAdd (fSl slD (fVar 4) (fNoPart) (fPart (fVar 5))) (fSl slD (fVar 4) (fPart (fOp opAdd (fVar 5) (fC (.int 1)))) (fNoPart)))) (fNext))
    (fSeq (fIfS (fB (fOp cEq (fVar 3) (fC (.int 4)))) (fAsg 4 (fOp opAdd (fVar 4) (fLst (fCons (fC (.int 7)) (fNil))))) (fNext))
    (fSeq (fAsg 6 (fBlt bTuple (fCons (fVar 4) (fNil))))
    (fSeq (fAsg 7 (fAndV (fOp cEq (fBlt bLen (fCons (fVar 4) (fNil))) (fOp ixD2 (fVar 1) (fC (.int 0)))) (fOp cEq (fLc (iSeq (fVar 4)) (gNm 8) [8] (fB (fOp cLt (fVar 8) (fC (.int 0)))) (fVar 8)) (fLst (fNil)))))
    (fSeq (fAsg 7 (fAndV (fVar 7) (fOp cEq (fLc (iSeq (fOp ixD2 (fVar 1) (fC (.int 1)))) (gNm 9) [9] (fB (fOp cEq (fOp ixD2 (fVar 4) (fOp ixD2 (fVar 9) (fC (.int 0)))) (fOp ixD2 (fVar 4) (fOp ixD2 (fVar 9) (fC (.int 1)))))) (fVar 9)) (fLst (fNil)))))
    (fSeq (fAsg 10 (fCall m_are_hues [false, false] (fCons (fVar 1) (fCons (fVar 6) (fNil)))))
    (fIfS (fOr (fNot (fB (fUn (bIs "bool") (fVar 10)))) (fB (fOp cNe (fVar 10) (fVar 7)))) (fRet (fC (.bool false))) (fNext))))))))))))
    (fRet (fC (.bool true)))
def m__law_ahues_right : FSem := semOf 3 11 b__law_ahues_right
def b__law_asets : FS := fSeq (fAsg 1 (fLst (fCons (fTup (fNil)) (fNil))))
    (fSeq (fFor (iRange1 (fCons (fVar 0) (fNil))) (gNm 2) [2, 3] (fAsg 1 (fOp opAdd (fVar 1) (fLc (iSeq (fVar 1)) (gNm 3) [3] (fYes) (fOp opAdd (fVar 3) (fTup (fCons (fVar 2) (fNil))))))))
    (fRet (fVar 1)))
def m__law_asets : FSem := semOf 1 4 b__law_asets
def b__law_ais_apart : FS := fRet (fOp cEq (fLc (iSeq (fOp ixD2 (fVar 0) (fC (.int 1)))) (gNm 2) [2] (fAnd (fB (fOp cInK (fOp ixD2 (fVar 2) (fC (.int 0))) (fVar 1))) (fB (fOp cInK (fOp ixD2 (fVar 2) (fC (.int 1))) (fVar 1)))) (fVar 2)) (fLst (fNil)))
def m__law_ais_apart : FSem := semOf 2 3 b__law_ais_apart
def b__law_aparts_of : FS := fSeq (fAsg 2 (fLst (fCons (fSl slD (fVar 1) (fNoPart) (fPart (fC (.int 1)))) (fNil))))
    (fSeq (fFor (iSeq (fSl slD (fVar 1) (fPart (fC (.int 1))) (fNoPart))) (gNm 3) [3, 4, 5] (fSeq (fAsg 4 (fLst (fNil)))
    (fSeq (fFor (iSeq (fVar 2)) (gNm 5) [5] (fIfS (fB (fCall m__law_ais_apart [false, false] (fCons (fVar 0) (fCons (fOp opAdd (fVar 5) (fTup (fCons (fVar 3) (fNil)))) (fNil))))) (fDrop (fLm 4 mAppend (fCons (fOp opAdd (fVar 5) (fTup (fCons (fVar 3) (fNil)))) (fNil)))) (fNext)))
    (fAsg 2 (fOp opAdd (fVar 2) (fVar 4))))))
    (fRet (fVar 2)))
def m__law_aparts_of : FSem := semOf 2 6 b__law_aparts_of
def b__law_aare_floors : FS := fSeq (fAsg 2 (fCall m__law_asets [false] (fCons (fOp ixD2 (fVar 0) (fC (.int 0))) (fNil))))
    (fSeq (fIfS (fOr (fB (fOp cNe (fBlt bSortD (fCons (fVar 1) (fNil))) (fBlt bSortTE (fCons (fVar 2) (fNil))))) (fB (fOp cGt (fOp ixD2 (fVar 1) (fTup (fNil))) (fC (.int 0))))) (fRet (fC (.bool false))) (fNext))
    (fSeq (fFor (iSeq (fSl slD (fVar 2) (fPart (fC (.int 1))) (fNoPart))) (gNm 3) [3, 4, 5] (fFor (iSeq (fCall m__law_aparts_of [false, false] (fCons (fVar 0) (fCons (fVar 3) (fNil))))) (gNm 4) [4, 5] (fIfS (fB (fOp cGt (fOp ixD2 (fVar 1) (fVar 3)) (fOp opAdd (fC (.int 1)) (fOp ixD2 (fVar 1) (fBlt bTuple (fCons (fLc (iSeq (fVar 3)) (gNm 5) [5] (fB (fOp cNotInK (fVar 5) (fVar 4))) (fVar 5)) (fNil))))))) (fRet (fC (.bool false))) (fNext))))
    (fRet (fC (.bool true)))))
def m__law_aare_floors : FSem := semOf 2 6 b__law_aare_floors
def b_are_floors : FS := fSeq (fDrop (fCall m_need_web [false] (fCons (fVar 0) (fNil))))
    (fSeq (fAsg 3 (fCall m_all_sets [false] (fCons (fOp ixD2 (fVar 0) (fC (.int 0))) (fNil))))
    (fSeq (fIfS (fOr (fB (fOp cNe (fBlt bLen2 (fCons (fVar 1) (fNil))) (fBlt bLen (fCons (fVar 3) (fNil))))) (fNot (fB (fBlt bAll (fCons (fLc (iSeq (fVar 3)) (gNm 4) [4] (fYes) (fOp cInK (fVar 4) (fVar 1))) (fNil)))))) (fRet (fC (.bool false))) (fNext))
    (fSeq (fFor (iSeq (fVar 3)) (gNm 4) [4, 5] (fSeq (fIfS (fAnd (fB (fOp cEq (fVar 4) (fTup (fNil)))) (fB (fOp cGt (fOp ixD2 (fVar 1) (fVar 4)) (fC (.int 0))))) (fRet (fC (.bool false))) (fNext))
    (fIfS (fAnd (fB (fOp cNe (fVar 4) (fTup (fNil)))) (fNot (fB (fBlt bAll (fCons (fLc (iSeq (fCall m_first_parts [false, false] (fCons (fVar 0) (fCons (fVar 4) (fNil))))) (gNm 5) [5] (fYes) (fOp cLe (fOp ixD2 (fVar 1) (fVar 4)) (fOp opAdd (fOp ixD2 (fVar 1) (fCall m_without [false, false] (fCons (fVar 4) (fCons (fVar 5) (fNil))))) (fC (.int 1))))) (fNil)))))) (fRet (fC (.bool false))) (fNext))))
    (fRet (fOp cGe (fOp ixD2 (fVar 1) (fOp ixD2 (fVar 3) (fUn uNeg (fC (.int 1))))) (fVar 2))))))
def m_are_floors : FSem := semOf 3 6 b_are_floors
def b__law_afloors_right : FS := fSeq (fAsg 2 (fBlt bDictT (fCons (fVar 1) (fNil))))
    (fSeq (fAsg 3 (fCall m__law_aare_floors [false, false] (fCons (fVar 0) (fCons (fVar 1) (fNil)))))
    (fSeq (fAsg 4 (fDGet3 1 (fRg1 mkT (fOp ixD2 (fVar 0) (fC (.int 0)))) (fC (.int 0))))
    (fSeq (fFor (iSeq (fLst (fCons (fVar 4) (fCons (fOp opAdd (fVar 4) (fC (.int 1))) (fCons (fOp opSub (fVar 4) (fC (.int 1))) (fCons (fUn uNeg (fC (.int 5))) (fCons (fC (.int 100000000000000000000)) (fNil)))))))) (gNm 5) [5, 6] (fSeq (fAsg 6 (fCall m_are_floors [false, false, false] (fCons (fVar 0) (fCons (fVar 2) (fCons (fVar 5) (fNil))))))
    (fIfS (fOr (fNot (fB (fUn (bIs "bool") (fVar 6)))) (fOr (fB (fOp cNe (fVar 6) (fAndV (fVar 3) (fOp cGe (fVar 4) (fVar 5))))) (fB (fOp cNeT (fVar 2) (fVar 1))))) (fRet (fC (.bool false))) (fNext))))
    (fRet (fC (.bool true))))))
def m__law_afloors_right : FSem := semOf 2 7 b__law_afloors_right
def b_law : FS := fSeq (fFor (iRange2 (fCons (fC (.int 0)) (fCons (fBlt bMax2 (fCons (fC (.int 1)) (fCons (fBlt bMin2 (fCons (fC (.int 3)) (fCons (fBlt bLen (fCons (fVar 0) (fNil))) (fNil)))) (fNil)))) (fNil)))) (gNm 1) [1, 2, 3, 4, 5, 6, 7, 8, 9, 10, 11] (fSeq (fAsg 2 (fCall m__law_atape [false, false] (fCons (fVar 0) (fCons (fVar 1) (fNil)))))
    (fSeq (fAsg 3 (fCall m__law_aweb [true, false] (fCons (fVar 2) (fCons (fC (.int 4)) (fNil)))))
    (fSeq (fUnp (gTp [gNm 4, gNm 5, gNm 6]) (fCall m_fewest [false] (fCons (fVar 3) (fNil))))
    (fSeq (fIfS (fNot (fB (fCall m__law_ahues_right [true, false, false] (fCons (fVar 2) (fCons (fVar 3) (fCons (fVar 5) (fNil))))))) (fRet (fC (.bool false))) (fNext))
    (fSeq (fAsg 7 (fLst (fCons (fVar 6) (fCons (fBlt bDictT (fCons (fLcT 6 (gNm 8) [8] (fYes) (fTup (fCons (fVar 8) (fCons (fC (.int 0)) (fNil))))) (fNil))) (fCons (fEmT) (fNil))))))
    (fSeq (fDrop (fLm 7 mAppend (fCons (fBlt bDictT (fCons (fLcT 6 (gNm 8) [8] (fYes) (fTup (fCons (fVar 8) (fCons (fOp opAdd (fOp ixD2 (fVar 6) (fVar 8)) (fC (.int 1))) (fNil))))) (fNil))) (fNil))))
    (fSeq (fDrop (fLm 7 mAppend (fCons (fBlt bDictT (fCons (fLcT 6 (gNm 8) [8] (fYes) (fTup (fCons (fVar 8) (fCons (fCall m__law_adigit [true, false] (fCons (fVar 2) (fCons (fC (.int 3)) (fNil)))) (fNil))))) (fNil))) (fNil))))
    (fSeq (fForT 6 (gNm 8) [8, 9, 10] (fSeq (fFor (iSeq (fLst (fCons (fOp opAdd (fOp ixD2 (fVar 6) (fVar 8)) (fC (.int 1))) (fCons (fOp opSub (fOp ixD2 (fVar 6) (fVar 8)) (fC (.int 1))) (fNil))))) (gNm 9) [9, 10] (fSeq (fAsg 10 (fBlt bDictT (fCons (fVar 6) (fNil))))
    (fSeq (fSetD 10 (fVar 8) (fVar 9))
    (fDrop (fLm 7 mAppend (fCons (fVar 10) (fNil)))))))
    (fSeq (fAsg 10 (fBlt bDictT (fCons (fVar 6) (fNil))))
    (fSeq (fDrop (fPopD 10 (fVar 8)))
    (fSeq (fDrop (fLm 7 mAppend (fCons (fVar 10) (fNil))))
    (fSeq (fAsg 10 (fBlt bDictT (fCons (fVar 10) (fNil))))
    (fSeq (fSetD 10 (fOp ixD2 (fLst (fCons (fTup (fCons (fOp ixD2 (fVar 3) (fC (.int 0))) (fNil))) (fCons (fTup (fCons (fC (.int 1)) (fCons (fC (.int 0)) (fNil)))) (fCons (fTup (fCons (fC (.int 0)) (fCons (fC (.int 0)) (fNil)))) (fNil))))) (fOp opMod (fBlt bLen (fCons (fVar 8) (fNil))) (fC (.int 3)))) (fOp ixD2 (fVar 6) (fVar 8)))
    (fDrop (fLm 7 mAppend (fCons (fVar 10) (fNil)))))))))))
    (fSeq (fAsg 10 (fBlt bDictT (fCons (fVar 6) (fNil))))
    (fSeq (fSetD 10 (fTup (fCons (fC (.int 1)) (fCons (fC (.int 0)) (fNil)))) (fC (.int 0)))
    (fFor (iSeq (fOp opAdd (fVar 7) (fLst (fCons (fVar 10) (fNil))))) (gNm 11) [11] (fIfS (fNot (fB (fCall m__law_afloors_right [false, false] (fCons (fVar 3) (fCons (fVar 11) (fNil)))))) (fRet (fC (.bool false))) (fNext))))))))))))))
    (fRet (fC (.bool true)))
def m_law : FSem := semOf 1 12 b_law
section
variable {P : Program} {w : World} {K : PySem.W.Frag} {mg : Str → Option Value} {base : Heap}
theorem sc__law_acell : FnScope ["script", "k"] ["script", "k"] (defScope s__law_acell) := ⟨rfl, rfl, rfl, by decide +kernel, rfl, by decide +kernel, by decide +kernel⟩
theorem ok__law_acell (T : TxOk fa fn K mg base) : Df P w K mg base "_law_acell" 1 ["script", "k"] [false, false] m__law_acell := by
  refine dfOk (bd := b__law_acell) T 0 0 sc__law_acell (by decide) (fun _ _ _ _ _ _ us hl => match us, hl with | [_, _], _ => rfl) ?_
  intro f cdv A outer s H vs E hr
  have sc := sc__law_acell
  exact pfs_cons (pfs_if (pft_cmp (fop_lt hr.units0) (pf_var 1) (pf_blt fb_len (T.free 31) bb_len (pf_cons (pf_var 0) (pf_nil))) (nomark _)) (pfs_one (pfs_ret (pf_ix (fix_d2 hr.u1) (pf_var 0) (pf_var 1)))) (pfs_nil))
    (pfs_one (pfs_ret (pf_int)))
theorem sc__law_atape : FnScope ["script", "k", "cell", "p", "number", "last", "turn"] ["script", "k"] (defScope s__law_atape) := ⟨rfl, rfl, rfl, by decide +kernel, rfl, by decide +kernel, by decide +kernel⟩
theorem ok__law_atape (T : TxOk fa fn K mg base) : Df P w K mg base "_law_atape" 2 ["script", "k"] [false, false] m__law_atape := by
  refine dfOk (bd := b__law_atape) T 1 1 sc__law_atape (by decide) (fun _ _ _ _ _ _ us hl => match us, hl with | [_, _], _ => rfl) ?_
  intro f cdv A outer s H vs E hr
  have sc := sc__law_atape
  exact pfs_cons (pfs_set (i := 2) sc.nd (pf_callD (ok__law_acell T) (hr.mono (by decide)) (fun σ => passAt (takes_of rfl rfl rfl rfl) σ) (pf_cons (pf_var 0) (pf_cons (pf_var 1) (pf_nil)))))
    (pfs_cons (pfs_if (pft_cmp (fop_eq hr.u64) (pf_op fop_mod (pf_var 2) (pf_int)) (pf_int) (nomark _)) (pfs_one (pfs_ret (pf_lst (pf_cons (pf_op fop_fdiv (pf_var 2) (pf_int)) (pf_nil))))) (pfs_nil))
    (pfs_cons (pfs_set (i := 3) sc.nd (pf_int))
    (pfs_cons (pfs_set (i := 4) sc.nd (pf_int))
    (pfs_cons (pfs_set (i := 5) sc.nd (pf_op fop_mod (pf_op fop_add (pf_op fop_add (pf_op fop_mul (pf_op fop_mod (pf_var 2) (pf_var 3)) (pf_int)) (pf_op fop_mul (pf_int) (pf_var 1))) (pf_int)) (pf_var 3)))
    (pfs_cons (pfs_for (ws := [6]) (wp := [6]) (passes_of rfl) rfl (pfi_range1 rfl (T.free 32) (pf_cons (pf_int) (pf_nil))) (pfg_nm sc.nd) (pfs_cons (pfs_set (i := 4) sc.nd (pf_op fop_add (pf_op fop_mul (pf_var 4) (pf_var 3)) (pf_var 5)))
    (pfs_one (pfs_set (i := 5) sc.nd (pf_op fop_mod (pf_op fop_add (pf_op fop_add (pf_op fop_mul (pf_var 5) (pf_var 5)) (pf_op fop_mul (pf_int) (pf_var 1))) (pf_var 6)) (pf_var 3))))))
    (pfs_one (pfs_ret (pf_lst (pf_cons (pf_var 4) (pf_nil))))))))))
theorem sc__law_adigit : FnScope ["tape", "many", "found"] ["tape", "many"] (defScope s__law_adigit) := ⟨rfl, rfl, rfl, by decide +kernel, rfl, by decide +kernel, by decide +kernel⟩
theorem ok__law_adigit (T : TxOk fa fn K mg base) : Df P w K mg base "_law_adigit" 1 ["tape", "many"] [true, false] m__law_adigit := by
  refine dfOk (bd := b__law_adigit) T 2 2 sc__law_adigit (by decide) (fun _ _ _ _ _ _ us hl => match us, hl with | [_, _], _ => rfl) ?_
  intro f cdv A outer s H vs E hr
  have sc := sc__law_adigit
  exact pfs_cons (pfs_set (i := 2) sc.nd (pf_op fop_mod (pf_ix (fix_d2 hr.u1) (pf_var 0) (pf_int)) (pf_var 1)))
    (pfs_cons (pfs_setIx 0 (pf_op fop_fdiv (pf_ix (fix_d2 hr.u1) (pf_var 0) (pf_int)) (pf_var 1)) (pv 0) (pf_int))
    (pfs_one (pfs_ret (pf_var 2))))
theorem sc__law_aweb : FnScope ["tape", "most", "n", "often", "ties", "i", "j"] ["tape", "most"] (defScope s__law_aweb) := ⟨rfl, rfl, rfl, by decide +kernel, rfl, by decide +kernel, by decide +kernel⟩
theorem ok__law_aweb (T : TxOk fa fn K mg base) : Df P w K mg base "_law_aweb" 2 ["tape", "most"] [true, false] m__law_aweb := by
  refine dfOk (bd := b__law_aweb) T 3 3 sc__law_aweb (by decide) (fun _ _ _ _ _ _ us hl => match us, hl with | [_, _], _ => rfl) ?_
  intro f cdv A outer s H vs E hr
  have sc := sc__law_aweb
  exact pfs_cons (pfs_set (i := 2) sc.nd (pf_callD (ok__law_adigit T) (hr.mono (by decide)) (fun σ => passAt (takes_of rfl rfl rfl rfl) σ) (pf_cons (pf_var 0) (pf_cons (pf_op fop_add (pf_var 1) (pf_int)) (pf_nil)))))
    (pfs_cons (pfs_set (i := 3) sc.nd (pf_op fop_add (pf_int) (pf_callD (ok__law_adigit T) (hr.mono (by decide)) (fun σ => passAt (takes_of rfl rfl rfl rfl) σ) (pf_cons (pf_var 0) (pf_cons (pf_int) (pf_nil))))))
    (pfs_cons (pfs_set (i := 4) sc.nd (pf_lst (pf_nil)))
    (pfs_cons (pfs_for (ws := [5]) (wp := [5, 6]) (passes_of rfl) rfl (pfi_range1 rfl (T.free 32) (pf_cons (pf_var 2) (pf_nil))) (pfg_nm sc.nd) (pfs_one (pfs_for (ws := [6]) (wp := [6]) (passes_of rfl) rfl (pfi_range2 rfl (T.free 32) (pf_cons (pf_op fop_add (pf_var 5) (pf_int)) (pf_cons (pf_var 2) (pf_nil)))) (pfg_nm sc.nd) (pfs_one (pfs_if (pft_cmp (fop_lt hr.units0) (pf_callD (ok__law_adigit T) (hr.mono (by decide)) (fun σ => passAt (takes_of rfl rfl rfl rfl) σ) (pf_cons (pf_var 0) (pf_cons (pf_int) (pf_nil)))) (pf_var 3) (nomark _)) (pfs_one (pfs_expr (pf_lm 4 PySem.F.slot_list_append PySem.F.type_list_append fm_append (pf_cons (pf_tup (pf_cons (pf_var 5) (pf_cons (pf_var 6) (pf_nil)))) (pf_nil)) (pv 4)))) (pfs_nil))))))
    (pfs_one (pfs_ret (pf_tup (pf_cons (pf_var 2) (pf_cons (pf_bty fb_tuple (T.free 33) bb_tuple (pf_cons (pf_var 4) (pf_nil))) (pf_nil)))))))))
theorem sc_is_whole : FnScope ["thing"] ["thing"] (defScope s_is_whole) := ⟨rfl, rfl, rfl, by decide +kernel, rfl, by decide +kernel, by decide +kernel⟩
theorem ok_is_whole (T : TxOk fa fn K mg base) : Df P w K mg base "is_whole" 1 ["thing"] [false] m_is_whole := by
  refine dfOk (bd := b_is_whole) T 4 4 sc_is_whole (by decide) (fun _ _ _ _ _ _ us hl => match us, hl with | [_], _ => rfl) ?_
  intro f cdv A outer s H vs E hr
  have sc := sc_is_whole
  exact pfs_one (pfs_ret (pf_and (pf_isinst .int (pf_var 0) (T.free 34) (T.free 35) bb_int) (pf_one (pf_not (pf_isinst .bool (pf_var 0) (T.free 34) (T.free 36) bb_bool)))))
theorem sc_is_below : FnScope ["thing", "many"] ["thing", "many"] (defScope s_is_below) := ⟨rfl, rfl, rfl, by decide +kernel, rfl, by decide +kernel, by decide +kernel⟩
theorem ok_is_below (T : TxOk fa fn K mg base) : Df P w K mg base "is_below" 2 ["thing", "many"] [false, false] m_is_below := by
  refine dfOk (bd := b_is_below) T 5 5 sc_is_below (by decide) (fun _ _ _ _ _ _ us hl => match us, hl with | [_, _], _ => rfl) ?_
  intro f cdv A outer s H vs E hr
  have sc := sc_is_below
  exact pfs_one (pfs_ret (pf_and (pf_callD (ok_is_whole T) (hr.mono (by decide)) (fun σ => passAt (takes_of rfl rfl rfl rfl) σ) (pf_cons (pf_var 0) (pf_nil))) (pf_one (pf_chain fop_le (fop_lt hr.units0) (pf_int) (pf_var 0) (pf_var 1)))))
theorem sc_is_rising : FnScope ["row", "k"] ["row"] (defScope s_is_rising) := ⟨rfl, rfl, rfl, by decide +kernel, rfl, by decide +kernel, by decide +kernel⟩
theorem ok_is_rising (T : TxOk fa fn K mg base) : Df P w K mg base "is_rising" 1 ["row"] [false] m_is_rising := by
  refine dfOk (bd := b_is_rising) T 6 6 sc_is_rising (by decide) (fun _ _ _ _ _ _ us hl => match us, hl with | [_], _ => rfl) ?_
  intro f cdv A outer s H vs E hr
  have sc := sc_is_rising
  exact pfs_one (pfs_ret (pf_blt (fb_all rfl) (T.free 37) bb_all (pf_cons (pf_lc (own := [("k", 1)]) rfl sc.nd (pfi_range1 rfl (T.free 32) (pf_cons (pf_op fop_sub (pf_blt fb_len (T.free 31) bb_len (pf_cons (pf_var 0) (pf_nil))) (pf_int)) (pf_nil))) (blkOk_by (by rfl)) (fun s H C cl fp => pfg_nm sc.nd) (fun s H C cl fp => pfts_nil) (fun s H C cl fp => pf_cmp (fop_lt hr.units0) (pf_ix (fix_d2 hr.u1) (pf_var 0) (pf_var 1)) (pf_ix (fix_d2 hr.u1) (pf_var 0) (pf_op fop_add (pf_var 1) (pf_int))) (nomark _))) (pf_nil))))
theorem sc_is_tie : FnScope ["n", "thing"] ["n", "thing"] (defScope s_is_tie) := ⟨rfl, rfl, rfl, by decide +kernel, rfl, by decide +kernel, by decide +kernel⟩
theorem ok_is_tie (T : TxOk fa fn K mg base) : Df P w K mg base "is_tie" 3 ["n", "thing"] [false, false] m_is_tie := by
  refine dfOk (bd := b_is_tie) T 7 7 sc_is_tie (by decide) (fun _ _ _ _ _ _ us hl => match us, hl with | [_, _], _ => rfl) ?_
  intro f cdv A outer s H vs E hr
  have sc := sc_is_tie
  exact pfs_cons (pfs_if (pft_W (pfw_or (pft_not (pft_B (pf_isinst .tuple (pf_var 1) (T.free 34) (T.free 33) bb_tuple))) (pfw_or1 (pft_cmp (fop_ne hr.u64) (pf_blt fb_len (T.free 31) bb_len (pf_cons (pf_var 1) (pf_nil))) (pf_int) (nomark _))))) (pfs_one (pfs_ret (pf_bl))) (pfs_nil))
    (pfs_one (pfs_ret (pf_and (pf_callD (ok_is_below T) (hr.mono (by decide)) (fun σ => passAt (takes_of rfl rfl rfl rfl) σ) (pf_cons (pf_ix (fix_d2 hr.u1) (pf_var 1) (pf_int)) (pf_cons (pf_var 0) (pf_nil)))) (pf_and (pf_callD (ok_is_below T) (hr.mono (by decide)) (fun σ => passAt (takes_of rfl rfl rfl rfl) σ) (pf_cons (pf_ix (fix_d2 hr.u1) (pf_var 1) (pf_int)) (pf_cons (pf_var 0) (pf_nil)))) (pf_one (pf_cmp (fop_lt hr.units0) (pf_ix (fix_d2 hr.u1) (pf_var 1) (pf_int)) (pf_ix (fix_d2 hr.u1) (pf_var 1) (pf_int)) (nomark _)))))))
theorem sc_are_ties : FnScope ["n", "thing", "tie"] ["n", "thing"] (defScope s_are_ties) := ⟨rfl, rfl, rfl, by decide +kernel, rfl, by decide +kernel, by decide +kernel⟩
theorem ok_are_ties (T : TxOk fa fn K mg base) : Df P w K mg base "are_ties" 4 ["n", "thing"] [false, false] m_are_ties := by
  refine dfOk (bd := b_are_ties) T 8 8 sc_are_ties (by decide) (fun _ _ _ _ _ _ us hl => match us, hl with | [_, _], _ => rfl) ?_
  intro f cdv A outer s H vs E hr
  have sc := sc_are_ties
  exact pfs_cons (pfs_if (pft_W (pfw_or (pft_not (pft_B (pf_isinst .tuple (pf_var 1) (T.free 34) (T.free 33) bb_tuple))) (pfw_or1 (pft_not (pft_B (pf_blt (fb_all rfl) (T.free 37) bb_all (pf_cons (pf_lc (own := [("tie", 2)]) rfl sc.nd (pfi_seq (pf_var 1)) (blkOk_by (by rfl)) (fun s H C cl fp => pfg_nm sc.nd) (fun s H C cl fp => pfts_nil) (fun s H C cl fp => pf_callD (ok_is_tie T) (hr.mono (by decide)) pass0At (pf_cons (pf_var 0) (pf_cons (pf_var 2) (pf_nil))))) (pf_nil)))))))) (pfs_one (pfs_ret (pf_bl))) (pfs_nil))
    (pfs_one (pfs_ret (pf_callD (ok_is_rising T) (hr.mono (by decide)) (fun σ => passAt (takes_of rfl rfl rfl rfl) σ) (pf_cons (pf_var 1) (pf_nil)))))
theorem sc_is_web : FnScope ["thing"] ["thing"] (defScope s_is_web) := ⟨rfl, rfl, rfl, by decide +kernel, rfl, by decide +kernel, by decide +kernel⟩
theorem ok_is_web (T : TxOk fa fn K mg base) : Df P w K mg base "is_web" 5 ["thing"] [false] m_is_web := by
  refine dfOk (bd := b_is_web) T 9 9 sc_is_web (by decide) (fun _ _ _ _ _ _ us hl => match us, hl with | [_], _ => rfl) ?_
  intro f cdv A outer s H vs E hr
  have sc := sc_is_web
  exact pfs_cons (pfs_if (pft_W (pfw_or (pft_not (pft_B (pf_isinst .tuple (pf_var 0) (T.free 34) (T.free 33) bb_tuple))) (pfw_or1 (pft_cmp (fop_ne hr.u64) (pf_blt fb_len (T.free 31) bb_len (pf_cons (pf_var 0) (pf_nil))) (pf_int) (nomark _))))) (pfs_one (pfs_ret (pf_bl))) (pfs_nil))
    (pfs_one (pfs_ret (pf_and (pf_callD (ok_is_below T) (hr.mono (by decide)) (fun σ => passAt (takes_of rfl rfl rfl rfl) σ) (pf_cons (pf_ix (fix_d2 hr.u1) (pf_var 0) (pf_int)) (pf_cons (pf_op fop_add (pf_globI (T.int 30)) (pf_int)) (pf_nil)))) (pf_one (pf_callD (ok_are_ties T) (hr.mono (by decide)) (fun σ => passAt (takes_of rfl rfl rfl rfl) σ) (pf_cons (pf_ix (fix_d2 hr.u1) (pf_var 0) (pf_int)) (pf_cons (pf_ix (fix_d2 hr.u1) (pf_var 0) (pf_int)) (pf_nil))))))))
theorem sc_need_web : FnScope ["web"] ["web"] (defScope s_need_web) := ⟨rfl, rfl, rfl, by decide +kernel, rfl, by decide +kernel, by decide +kernel⟩
theorem ok_need_web (T : TxOk fa fn K mg base) : Df P w K mg base "need_web" 6 ["web"] [false] m_need_web := by
  refine dfOk (bd := b_need_web) T 10 10 sc_need_web (by decide) (fun _ _ _ _ _ _ us hl => match us, hl with | [_], _ => rfl) ?_
  intro f cdv A outer s H vs E hr
  have sc := sc_need_web
  exact pfs_one (pfs_if (pft_not (pft_B (pf_callD (ok_is_web T) (hr.mono (by decide)) (fun σ => passAt (takes_of rfl rfl rfl rfl) σ) (pf_cons (pf_var 0) (pf_nil))))) (pfs_one (pfs_raise rfl (takes_of rfl rfl rfl rfl) (T.glo 28) (T.exc 29))) (pfs_nil))
theorem sc_all_sets : FnScope ["n", "found", "place", "some"] ["n"] (defScope s_all_sets) := ⟨rfl, rfl, rfl, by decide +kernel, rfl, by decide +kernel, by decide +kernel⟩
theorem ok_all_sets (T : TxOk fa fn K mg base) : Df P w K mg base "all_sets" 1 ["n"] [false] m_all_sets := by
  refine dfOk (bd := b_all_sets) T 11 11 sc_all_sets (by decide) (fun _ _ _ _ _ _ us hl => match us, hl with | [_], _ => rfl) ?_
  intro f cdv A outer s H vs E hr
  have sc := sc_all_sets
  exact pfs_cons (pfs_set (i := 1) sc.nd (pf_lst (pf_cons (pf_tup (pf_nil)) (pf_nil))))
    (pfs_cons (pfs_for (ws := [2]) (wp := [2, 3]) (passes_of rfl) rfl (pfi_range1 rfl (T.free 32) (pf_cons (pf_var 0) (pf_nil))) (pfg_nm sc.nd) (pfs_one (pfs_set (i := 1) sc.nd (pf_op fop_add (pf_var 1) (pf_lc (own := [("some", 3)]) rfl sc.nd (pfi_seq (pf_var 1)) (blkOk_by (by rfl)) (fun s H C cl fp => pfg_nm sc.nd) (fun s H C cl fp => pfts_nil) (fun s H C cl fp => pf_op fop_add (pf_var 3) (pf_tup (pf_cons (pf_var 2) (pf_nil)))))))))
    (pfs_one (pfs_ret (pf_var 1))))
theorem sc_without : FnScope ["some", "part", "place"] ["some", "part"] (defScope s_without) := ⟨rfl, rfl, rfl, by decide +kernel, rfl, by decide +kernel, by decide +kernel⟩
theorem ok_without (T : TxOk fa fn K mg base) : Df P w K mg base "without" 1 ["some", "part"] [false, false] m_without := by
  refine dfOk (bd := b_without) T 12 12 sc_without (by decide) (fun _ _ _ _ _ _ us hl => match us, hl with | [_, _], _ => rfl) ?_
  intro f cdv A outer s H vs E hr
  have sc := sc_without
  exact pfs_one (pfs_ret (pf_bty fb_tuple (T.free 33) bb_tuple (pf_cons (pf_lc (own := [("place", 2)]) rfl sc.nd (pfi_seq (pf_var 0)) (blkOk_by (by rfl)) (fun s H C cl fp => pfg_nm sc.nd) (fun s H C cl fp => pfts_one (pft_cmp (fop_notInK hr.u65) (pf_var 2) (pf_var 1) (by rfl))) (fun s H C cl fp => pf_var 2)) (pf_nil))))
theorem sc_tied_in : FnScope ["web", "one", "other"] ["web", "one", "other"] (defScope s_tied_in) := ⟨rfl, rfl, rfl, by decide +kernel, rfl, by decide +kernel, by decide +kernel⟩
theorem ok_tied_in (T : TxOk fa fn K mg base) : Df P w K mg base "tied_in" 1 ["web", "one", "other"] [false, false, false] m_tied_in := by
  refine dfOk (bd := b_tied_in) T 13 13 sc_tied_in (by decide) (fun _ _ _ _ _ _ us hl => match us, hl with | [_, _, _], _ => rfl) ?_
  intro f cdv A outer s H vs E hr
  have sc := sc_tied_in
  exact pfs_one (pfs_ret (pf_cmp (fop_inK hr.u65) (pf_tup (pf_cons (pf_blt (fb_min2 rfl) (T.free 39) bb_min (pf_cons (pf_var 1) (pf_cons (pf_var 2) (pf_nil)))) (pf_cons (pf_blt (fb_max2 rfl) (T.free 38) bb_max (pf_cons (pf_var 1) (pf_cons (pf_var 2) (pf_nil)))) (pf_nil)))) (pf_ix (fix_d2 hr.u1) (pf_var 0) (pf_int)) (by rfl)))
theorem sc_first_parts : FnScope ["web", "some", "found", "place", "more", "part", "one"] ["web", "some"] (defScope s_first_parts) := ⟨rfl, rfl, rfl, by decide +kernel, rfl, by decide +kernel, by decide +kernel⟩
theorem ok_first_parts (T : TxOk fa fn K mg base) : Df P w K mg base "first_parts" 2 ["web", "some"] [false, false] m_first_parts := by
  refine dfOk (bd := b_first_parts) T 14 14 sc_first_parts (by decide) (fun _ _ _ _ _ _ us hl => match us, hl with | [_, _], _ => rfl) ?_
  intro f cdv A outer s H vs E hr
  have sc := sc_first_parts
  exact pfs_cons (pfs_set (i := 2) sc.nd (pf_lst (pf_cons (pf_sl (pf_var 1) (pfo_none) (pfo_some (pf_int))) (pf_nil))))
    (pfs_cons (pfs_for (ws := [3]) (wp := [3, 4, 5, 6]) (passes_of rfl) rfl (pfi_seq (pf_sl (pf_var 1) (pfo_some (pf_int)) (pfo_none))) (pfg_nm sc.nd) (pfs_cons (pfs_setLc (own := [("part", 5)]) rfl sc.nd rfl (pfi_seq (pf_var 2)) (blkOk_by (by rfl)) (fun s H C cl fp => pfg_nm sc.nd) (fun s H C cl fp => pfts_one (pft_not (pft_B (pf_blt (fb_any rfl) (T.free 40) bb_any (pf_cons (pf_lc (own := [("one", 6)]) rfl sc.nd (pfi_seq (pf_var 5)) (blkOk_by (by rfl)) (fun s H C cl fp => pfg_nm sc.nd) (fun s H C cl fp => pfts_nil) (fun s H C cl fp => pf_callD (ok_tied_in T) (hr.mono (by decide)) pass0At (pf_cons (pf_var 0) (pf_cons (pf_var 6) (pf_cons (pf_var 3) (pf_nil)))))) (pf_nil)))))) (fun s H C cl fp => pf_op fop_add (pf_var 5) (pf_tup (pf_cons (pf_var 3) (pf_nil)))))
    (pfs_one (pfs_set (i := 2) sc.nd (pf_op fop_add (pf_var 2) (pf_var 4))))))
    (pfs_one (pfs_ret (pf_var 2))))
theorem sc_floors_in : FnScope ["web", "found", "some", "part"] ["web"] (defScope s_floors_in) := ⟨rfl, rfl, rfl, by decide +kernel, rfl, by decide +kernel, by decide +kernel⟩
theorem ok_floors_in (T : TxOk fa fn K mg base) : Df P w K mg base "floors_in" 3 ["web"] [false] m_floors_in := by
  refine dfOk (bd := b_floors_in) T 15 15 sc_floors_in (by decide) (fun _ _ _ _ _ _ us hl => match us, hl with | [_], _ => rfl) ?_
  intro f cdv A outer s H vs E hr
  have sc := sc_floors_in
  exact pfs_cons (pfs_set (i := 1) sc.nd pf_emT)
    (pfs_cons (pfs_for (ws := [2]) (wp := [2, 3]) (passes_of rfl) rfl (pfi_seq (pf_callD (ok_all_sets T) (hr.mono (by decide)) (fun σ => passAt (takes_of rfl rfl rfl rfl) σ) (pf_cons (pf_ix (fix_d2 hr.u1) (pf_var 0) (pf_int)) (pf_nil)))) (pfg_nm sc.nd) (pfs_one (pfs_if (pft_cmp (fop_eq hr.u64) (pf_var 2) (pf_tup (pf_nil)) (nomark _)) (pfs_one (pfs_setD 1 hr.u1 (pf_int) (pv 1) (pf_var 2))) (pfs_one (pfs_setD 1 hr.u1 (pf_op fop_add (pf_int) (pf_blt (fb_minL rfl) (T.free 39) bb_min (pf_cons (pf_lc (own := [("part", 3)]) rfl sc.nd (pfi_seq (pf_callD (ok_first_parts T) (hr.mono (by decide)) (fun σ => passAt (takes_of rfl rfl rfl rfl) σ) (pf_cons (pf_var 0) (pf_cons (pf_var 2) (pf_nil))))) (blkOk_by (by rfl)) (fun s H C cl fp => pfg_nm sc.nd) (fun s H C cl fp => pfts_nil) (fun s H C cl fp => pf_ix (fix_d2 hr.u1) (pf_var 1) (pf_callD (ok_without T) (hr.mono (by decide)) pass0At (pf_cons (pf_var 2) (pf_cons (pf_var 3) (pf_nil)))))) (pf_nil)))) (pv 1) (pf_var 2))))))
    (pfs_one (pfs_ret (pf_var 1))))
theorem sc_hues_by : FnScope ["web", "floors", "hues", "place", "left", "hue", "fit", "part"] ["web", "floors"] (defScope s_hues_by) := ⟨rfl, rfl, rfl, by decide +kernel, rfl, by decide +kernel, by decide +kernel⟩
theorem ok_hues_by (T : TxOk fa fn K mg base) : Df P w K mg base "hues_by" 3 ["web", "floors"] [false, false] m_hues_by := by
  refine dfOk (bd := b_hues_by) T 16 16 sc_hues_by (by decide) (fun _ _ _ _ _ _ us hl => match us, hl with | [_, _], _ => rfl) ?_
  intro f cdv A outer s H vs E hr
  have sc := sc_hues_by
  exact pfs_cons (pfs_setLc (own := [("place", 3)]) rfl sc.nd rfl (pfi_range1 rfl (T.free 32) (pf_cons (pf_ix (fix_d2 hr.u1) (pf_var 0) (pf_int)) (pf_nil))) (blkOk_by (by rfl)) (fun s H C cl fp => pfg_nm sc.nd) (fun s H C cl fp => pfts_nil) (fun s H C cl fp => pf_int))
    (pfs_cons (pfs_set (i := 4) sc.nd (pf_tRg1 rfl (T.free 33) (T.free 32) (pf_ix (fix_d2 hr.u1) (pf_var 0) (pf_int))))
    (pfs_cons (pfs_set (i := 5) sc.nd (pf_int))
    (pfs_cons (pfs_while (wp := [3, 6, 7]) (passes_of rfl) (pft_cmp (fop_ne hr.u64) (pf_var 4) (pf_tup (pf_nil)) (nomark _)) (pfs_cons (pfs_setLc (own := [("part", 7)]) rfl sc.nd rfl (pfi_seq (pf_callD (ok_first_parts T) (hr.mono (by decide)) (fun σ => passAt (takes_of rfl rfl rfl rfl) σ) (pf_cons (pf_var 0) (pf_cons (pf_var 4) (pf_nil))))) (blkOk_by (by rfl)) (fun s H C cl fp => pfg_nm sc.nd) (fun s H C cl fp => pfts_one (pft_cmp (fop_eq hr.u64) (pf_ix (fix_d2 hr.u1) (pf_var 1) (pf_callD (ok_without T) (hr.mono (by decide)) pass0At (pf_cons (pf_var 4) (pf_cons (pf_var 7) (pf_nil))))) (pf_op fop_sub (pf_ix (fix_d2 hr.u1) (pf_var 1) (pf_var 4)) (pf_int)) (nomark _))) (fun s H C cl fp => pf_var 7))
    (pfs_cons (pfs_for (ws := [3]) (wp := [3]) (passes_of rfl) rfl (pfi_seq (pf_ix (fix_d2 hr.u1) (pf_var 6) (pf_int))) (pfg_nm sc.nd) (pfs_one (pfs_setIx 2 (pf_var 5) (pv 2) (pf_var 3))))
    (pfs_cons (pfs_set (i := 4) sc.nd (pf_callD (ok_without T) (hr.mono (by decide)) (fun σ => passAt (takes_of rfl rfl rfl rfl) σ) (pf_cons (pf_var 4) (pf_cons (pf_ix (fix_d2 hr.u1) (pf_var 6) (pf_int)) (pf_nil)))))
    (pfs_one (pfs_set (i := 5) sc.nd (pf_op fop_add (pf_var 5) (pf_int))))))))
    (pfs_one (pfs_ret (pf_bty fb_tuple (T.free 33) bb_tuple (pf_cons (pf_var 2) (pf_nil))))))))
theorem sc_fewest_in : FnScope ["web", "floors"] ["web"] (defScope s_fewest_in) := ⟨rfl, rfl, rfl, by decide +kernel, rfl, by decide +kernel, by decide +kernel⟩
theorem ok_fewest_in (T : TxOk fa fn K mg base) : Df P w K mg base "fewest_in" 4 ["web"] [false] m_fewest_in := by
  refine dfOk (bd := b_fewest_in) T 17 17 sc_fewest_in (by decide) (fun _ _ _ _ _ _ us hl => match us, hl with | [_], _ => rfl) ?_
  intro f cdv A outer s H vs E hr
  have sc := sc_fewest_in
  exact pfs_cons (pfs_set (i := 1) sc.nd (pf_callD (ok_floors_in T) (hr.mono (by decide)) (fun σ => passAt (takes_of rfl rfl rfl rfl) σ) (pf_cons (pf_var 0) (pf_nil))))
    (pfs_one (pfs_ret (pf_tup (pf_cons (pf_ix (fix_d2 hr.u1) (pf_var 1) (pf_tRg1 rfl (T.free 33) (T.free 32) (pf_ix (fix_d2 hr.u1) (pf_var 0) (pf_int)))) (pf_cons (pf_callD (ok_hues_by T) (hr.mono (by decide)) (fun σ => passAt (takes_of rfl rfl rfl rfl) σ) (pf_cons (pf_var 0) (pf_cons (pf_var 1) (pf_nil)))) (pf_cons (pf_var 1) (pf_nil)))))))
theorem sc_fewest : FnScope ["web"] ["web"] (defScope s_fewest) := ⟨rfl, rfl, rfl, by decide +kernel, rfl, by decide +kernel, by decide +kernel⟩
theorem ok_fewest (T : TxOk fa fn K mg base) : Df P w K mg base "fewest" 7 ["web"] [false] m_fewest := by
  refine dfOk (bd := b_fewest) T 18 18 sc_fewest (by decide) (fun _ _ _ _ _ _ us hl => match us, hl with | [_], _ => rfl) ?_
  intro f cdv A outer s H vs E hr
  have sc := sc_fewest
  exact pfs_cons (pfs_expr (pf_callD (ok_need_web T) (hr.mono (by decide)) (fun σ => passAt (takes_of rfl rfl rfl rfl) σ) (pf_cons (pf_var 0) (pf_nil))))
    (pfs_one (pfs_ret (pf_callD (ok_fewest_in T) (hr.mono (by decide)) (fun σ => passAt (takes_of rfl rfl rfl rfl) σ) (pf_cons (pf_var 0) (pf_nil)))))
theorem sc_are_hues : FnScope ["web", "hues", "hue", "one", "other"] ["web", "hues"] (defScope s_are_hues) := ⟨rfl, rfl, rfl, by decide +kernel, rfl, by decide +kernel, by decide +kernel⟩
theorem ok_are_hues (T : TxOk fa fn K mg base) : Df P w K mg base "are_hues" 7 ["web", "hues"] [false, false] m_are_hues := by
  refine dfOk (bd := b_are_hues) T 19 19 sc_are_hues (by decide) (fun _ _ _ _ _ _ us hl => match us, hl with | [_, _], _ => rfl) ?_
  intro f cdv A outer s H vs E hr
  have sc := sc_are_hues
  exact pfs_cons (pfs_expr (pf_callD (ok_need_web T) (hr.mono (by decide)) (fun σ => passAt (takes_of rfl rfl rfl rfl) σ) (pf_cons (pf_var 0) (pf_nil))))
    (pfs_cons (pfs_if (pft_W (pfw_or (pft_cmp (fop_ne hr.u64) (pf_blt fb_len (T.free 31) bb_len (pf_cons (pf_var 1) (pf_nil))) (pf_ix (fix_d2 hr.u1) (pf_var 0) (pf_int)) (nomark _)) (pfw_or1 (pft_not (pft_B (pf_blt (fb_all rfl) (T.free 37) bb_all (pf_cons (pf_lc (own := [("hue", 2)]) rfl sc.nd (pfi_seq (pf_var 1)) (blkOk_by (by rfl)) (fun s H C cl fp => pfg_nm sc.nd) (fun s H C cl fp => pfts_nil) (fun s H C cl fp => pf_cmp fop_ge (pf_var 2) (pf_int) (nomark _))) (pf_nil)))))))) (pfs_one (pfs_ret (pf_bl))) (pfs_nil))
    (pfs_one (pfs_ret (pf_blt (fb_all rfl) (T.free 37) bb_all (pf_cons (pf_lc (own := [("one", 3), ("other", 4)]) rfl sc.nd (pfi_seq (pf_ix (fix_d2 hr.u1) (pf_var 0) (pf_int))) (blkOk_by (by rfl)) (fun s H C cl fp => pfg_tup rfl (pfgs_cons (pfg_nm sc.nd) (pfgs_cons (pfg_nm sc.nd) (pfgs_nil))) rfl rfl tp2) (fun s H C cl fp => pfts_nil) (fun s H C cl fp => pf_cmp (fop_ne hr.u64) (pf_ix (fix_d2 hr.u1) (pf_var 1) (pf_var 3)) (pf_ix (fix_d2 hr.u1) (pf_var 1) (pf_var 4)) (nomark _))) (pf_nil))))))
theorem sc__law_ahues_right : FnScope ["tape", "web", "hues", "turn", "one", "at", "handed", "due", "hue", "pair", "found"] ["tape", "web", "hues"] (defScope s__law_ahues_right) := ⟨rfl, rfl, rfl, by decide +kernel, rfl, by decide +kernel, by decide +kernel⟩
theorem ok__law_ahues_right (T : TxOk fa fn K mg base) : Df P w K mg base "_law_ahues_right" 8 ["tape", "web", "hues"] [true, false, false] m__law_ahues_right := by
  refine dfOk (bd := b__law_ahues_right) (k := 7) (N := ["tape", "web", "hues", "turn", "one", "at", "handed", "due", "hue", "pair", "found"]) (ps := ["tape", "web", "hues"]) (st := s__law_ahues_right) T 20 20 sc__law_ahues_right (by decide) (fun _ _ _ _ _ _ us hl => match us, hl with | [_, _, _], _ => rfl) ?_
  intro f cdv A outer s H vs E hr
  have sc := sc__law_ahues_right
  exact pfs_cons (pfs_for (ws := [3]) (wp := [3, 4, 5, 6, 7, 8, 9, 10]) (passes_of rfl) rfl (pfi_range1 rfl (T.free 32) (pf_cons (pf_int) (pf_nil))) (pfg_nm sc.nd) (pfs_cons (pfs_set (i := 4) sc.nd (pf_bty fb_list (T.free 41) bb_list (pf_cons (pf_var 2) (pf_nil))))
    (pfs_cons (pfs_set (i := 5) sc.nd (pf_callD (ok__law_adigit T) (hr.mono (by decide)) (fun σ => passAt (takes_of rfl rfl rfl rfl) σ) (pf_cons (pf_var 0) (pf_cons (pf_op fop_add (pf_blt fb_len (T.free 31) bb_len (pf_cons (pf_var 2) (pf_nil))) (pf_int)) (pf_nil)))))
    (pfs_cons (pfs_if (pft_W (pfw_and (pft_cmp fop_gt (pf_var 3) (pf_int) (nomark _)) (pfw_and1 (pft_cmp (fop_lt hr.units0) (pf_var 5) (pf_blt fb_len (T.free 31) bb_len (pf_cons (pf_var 4) (pf_nil))) (nomark _))))) (pfs_one (pfs_setIx 4 (pf_ix (fix_d2 hr.u1) (pf_lst (pf_cons (pf_int) (pf_cons (pf_int) (pf_cons (pf_int) (pf_cons (pf_un fun_neg (pf_int)) (pf_cons (pf_powC 100000000000000000000) (pf_nil))))))) (pf_callD (ok__law_adigit T) (hr.mono (by decide)) (fun σ => passAt (takes_of rfl rfl rfl rfl) σ) (pf_cons (pf_var 0) (pf_cons (pf_int) (pf_nil))))) (pv 4) (pf_var 5))) (pfs_nil))
    (pfs_cons (pfs_if (pft_cmp (fop_eq hr.u64) (pf_var 3) (pf_int) (nomark _)) (pfs_one (pfs_set (i := 4) sc.nd (pf_op fop_add (pf_sl (pf_var 4) (pfo_none) (pfo_some (pf_var 5))) (pf_sl (pf_var 4) (pfo_some (pf_op fop_add (pf_var 5) (pf_int))) (pfo_none))))) (pfs_nil))
    (pfs_cons (pfs_if (pft_cmp (fop_eq hr.u64) (pf_var 3) (pf_int) (nomark _)) (pfs_one (pfs_set (i := 4) sc.nd (pf_op fop_add (pf_var 4) (pf_lst (pf_cons (pf_int) (pf_nil)))))) (pfs_nil))
    (pfs_cons (pfs_set (i := 6) sc.nd (pf_bty fb_tuple (T.free 33) bb_tuple (pf_cons (pf_var 4) (pf_nil))))
    (pfs_cons (pfs_set (i := 7) sc.nd (pf_and (pf_cmp (fop_eq hr.u64) (pf_blt fb_len (T.free 31) bb_len (pf_cons (pf_var 4) (pf_nil))) (pf_ix (fix_d2 hr.u1) (pf_var 1) (pf_int)) (nomark _)) (pf_one (pf_cmp (fop_eq hr.u64) (pf_lc (own := [("hue", 8)]) rfl sc.nd (pfi_seq (pf_var 4)) (blkOk_by (by rfl)) (fun s H C cl fp => pfg_nm sc.nd) (fun s H C cl fp => pfts_one (pft_cmp (fop_lt hr.units0) (pf_var 8) (pf_int) (nomark _))) (fun s H C cl fp => pf_var 8)) (pf_lst (pf_nil)) (nomark _)))))
    (pfs_cons (pfs_set (i := 7) sc.nd (pf_and (pf_var 7) (pf_one (pf_cmp (fop_eq hr.u64) (pf_lc (own := [("pair", 9)]) rfl sc.nd (pfi_seq (pf_ix (fix_d2 hr.u1) (pf_var 1) (pf_int))) (blkOk_by (by rfl)) (fun s H C cl fp => pfg_nm sc.nd) (fun s H C cl fp => pfts_one (pft_cmp (fop_eq hr.u64) (pf_ix (fix_d2 hr.u1) (pf_var 4) (pf_ix (fix_d2 hr.u1) (pf_var 9) (pf_int))) (pf_ix (fix_d2 hr.u1) (pf_var 4) (pf_ix (fix_d2 hr.u1) (pf_var 9) (pf_int))) (nomark _))) (fun s H C cl fp => pf_var 9)) (pf_lst (pf_nil)) (nomark _)))))
    (pfs_cons (pfs_set (i := 10) sc.nd (pf_callD (ok_are_hues T) (hr.mono (by decide)) (fun σ => passAt (takes_of rfl rfl rfl rfl) σ) (pf_cons (pf_var 1) (pf_cons (pf_var 6) (pf_nil)))))
    (pfs_one (pfs_if (pft_W (pfw_or (pft_not (pft_B (pf_isinst .bool (pf_var 10) (T.free 34) (T.free 36) bb_bool))) (pfw_or1 (pft_cmp (fop_ne hr.u64) (pf_var 10) (pf_var 7) (nomark _))))) (pfs_one (pfs_ret (pf_bl))) (pfs_nil)))))))))))))
    (pfs_one (pfs_ret (pf_bl)))
theorem sc__law_asets : FnScope ["n", "found", "place", "some"] ["n"] (defScope s__law_asets) := ⟨rfl, rfl, rfl, by decide +kernel, rfl, by decide +kernel, by decide +kernel⟩
theorem ok__law_asets (T : TxOk fa fn K mg base) : Df P w K mg base "_law_asets" 1 ["n"] [false] m__law_asets := by
  refine dfOk (bd := b__law_asets) T 21 21 sc__law_asets (by decide) (fun _ _ _ _ _ _ us hl => match us, hl with | [_], _ => rfl) ?_
  intro f cdv A outer s H vs E hr
  have sc := sc__law_asets
  exact pfs_cons (pfs_set (i := 1) sc.nd (pf_lst (pf_cons (pf_tup (pf_nil)) (pf_nil))))
    (pfs_cons (pfs_for (ws := [2]) (wp := [2, 3]) (passes_of rfl) rfl (pfi_range1 rfl (T.free 32) (pf_cons (pf_var 0) (pf_nil))) (pfg_nm sc.nd) (pfs_one (pfs_set (i := 1) sc.nd (pf_op fop_add (pf_var 1) (pf_lc (own := [("some", 3)]) rfl sc.nd (pfi_seq (pf_var 1)) (blkOk_by (by rfl)) (fun s H C cl fp => pfg_nm sc.nd) (fun s H C cl fp => pfts_nil) (fun s H C cl fp => pf_op fop_add (pf_var 3) (pf_tup (pf_cons (pf_var 2) (pf_nil)))))))))
    (pfs_one (pfs_ret (pf_var 1))))
theorem sc__law_ais_apart : FnScope ["web", "some", "pair"] ["web", "some"] (defScope s__law_ais_apart) := ⟨rfl, rfl, rfl, by decide +kernel, rfl, by decide +kernel, by decide +kernel⟩
theorem ok__law_ais_apart (T : TxOk fa fn K mg base) : Df P w K mg base "_law_ais_apart" 1 ["web", "some"] [false, false] m__law_ais_apart := by
  refine dfOk (bd := b__law_ais_apart) T 22 22 sc__law_ais_apart (by decide) (fun _ _ _ _ _ _ us hl => match us, hl with | [_, _], _ => rfl) ?_
  intro f cdv A outer s H vs E hr
  have sc := sc__law_ais_apart
  exact pfs_one (pfs_ret (pf_cmp (fop_eq hr.u64) (pf_lc (own := [("pair", 2)]) rfl sc.nd (pfi_seq (pf_ix (fix_d2 hr.u1) (pf_var 0) (pf_int))) (blkOk_by (by rfl)) (fun s H C cl fp => pfg_nm sc.nd) (fun s H C cl fp => pfts_one (pft_W (pfw_and (pft_cmp (fop_inK hr.u65) (pf_ix (fix_d2 hr.u1) (pf_var 2) (pf_int)) (pf_var 1) (by rfl)) (pfw_and1 (pft_cmp (fop_inK hr.u65) (pf_ix (fix_d2 hr.u1) (pf_var 2) (pf_int)) (pf_var 1) (by rfl)))))) (fun s H C cl fp => pf_var 2)) (pf_lst (pf_nil)) (nomark _)))
theorem sc__law_aparts_of : FnScope ["web", "some", "found", "place", "more", "piece"] ["web", "some"] (defScope s__law_aparts_of) := ⟨rfl, rfl, rfl, by decide +kernel, rfl, by decide +kernel, by decide +kernel⟩
theorem ok__law_aparts_of (T : TxOk fa fn K mg base) : Df P w K mg base "_law_aparts_of" 2 ["web", "some"] [false, false] m__law_aparts_of := by
  refine dfOk (bd := b__law_aparts_of) T 23 23 sc__law_aparts_of (by decide) (fun _ _ _ _ _ _ us hl => match us, hl with | [_, _], _ => rfl) ?_
  intro f cdv A outer s H vs E hr
  have sc := sc__law_aparts_of
  exact pfs_cons (pfs_set (i := 2) sc.nd (pf_lst (pf_cons (pf_sl (pf_var 1) (pfo_none) (pfo_some (pf_int))) (pf_nil))))
    (pfs_cons (pfs_for (ws := [3]) (wp := [3, 4, 5]) (passes_of rfl) rfl (pfi_seq (pf_sl (pf_var 1) (pfo_some (pf_int)) (pfo_none))) (pfg_nm sc.nd) (pfs_cons (pfs_set (i := 4) sc.nd (pf_lst (pf_nil)))
    (pfs_cons (pfs_for (ws := [5]) (wp := [5]) (passes_of rfl) rfl (pfi_seq (pf_var 2)) (pfg_nm sc.nd) (pfs_one (pfs_if (pft_B (pf_callD (ok__law_ais_apart T) (hr.mono (by decide)) (fun σ => passAt (takes_of rfl rfl rfl rfl) σ) (pf_cons (pf_var 0) (pf_cons (pf_op fop_add (pf_var 5) (pf_tup (pf_cons (pf_var 3) (pf_nil)))) (pf_nil))))) (pfs_one (pfs_expr (pf_lm 4 PySem.F.slot_list_append PySem.F.type_list_append fm_append (pf_cons (pf_op fop_add (pf_var 5) (pf_tup (pf_cons (pf_var 3) (pf_nil)))) (pf_nil)) (pv 4)))) (pfs_nil))))
    (pfs_one (pfs_set (i := 2) sc.nd (pf_op fop_add (pf_var 2) (pf_var 4)))))))
    (pfs_one (pfs_ret (pf_var 2))))
theorem sc__law_aare_floors : FnScope ["web", "floors", "every", "some", "piece", "place"] ["web", "floors"] (defScope s__law_aare_floors) := ⟨rfl, rfl, rfl, by decide +kernel, rfl, by decide +kernel, by decide +kernel⟩
theorem ok__law_aare_floors (T : TxOk fa fn K mg base) : Df P w K mg base "_law_aare_floors" 3 ["web", "floors"] [false, false] m__law_aare_floors := by
  refine dfOk (bd := b__law_aare_floors) T 24 24 sc__law_aare_floors (by decide) (fun _ _ _ _ _ _ us hl => match us, hl with | [_, _], _ => rfl) ?_
  intro f cdv A outer s H vs E hr
  have sc := sc__law_aare_floors
  exact pfs_cons (pfs_set (i := 2) sc.nd (pf_callD (ok__law_asets T) (hr.mono (by decide)) (fun σ => passAt (takes_of rfl rfl rfl rfl) σ) (pf_cons (pf_ix (fix_d2 hr.u1) (pf_var 0) (pf_int)) (pf_nil))))
    (pfs_cons (pfs_if (pft_W (pfw_or (pft_cmp (fop_ne hr.u64) (pf_sortD rfl hr.u64 (T.free 42) (pf_cons (pf_var 1) (pf_nil))) (pf_blt (fb_sortTE hr.u64) (T.free 42) bb_sorted (pf_cons (pf_var 2) (pf_nil))) (nomark _)) (pfw_or1 (pft_cmp fop_gt (pf_ix (fix_d2 hr.u1) (pf_var 1) (pf_tup (pf_nil))) (pf_int) (nomark _))))) (pfs_one (pfs_ret (pf_bl))) (pfs_nil))
    (pfs_cons (pfs_for (ws := [3]) (wp := [3, 4, 5]) (passes_of rfl) rfl (pfi_seq (pf_sl (pf_var 2) (pfo_some (pf_int)) (pfo_none))) (pfg_nm sc.nd) (pfs_one (pfs_for (ws := [4]) (wp := [4, 5]) (passes_of rfl) rfl (pfi_seq (pf_callD (ok__law_aparts_of T) (hr.mono (by decide)) (fun σ => passAt (takes_of rfl rfl rfl rfl) σ) (pf_cons (pf_var 0) (pf_cons (pf_var 3) (pf_nil))))) (pfg_nm sc.nd) (pfs_one (pfs_if (pft_cmp fop_gt (pf_ix (fix_d2 hr.u1) (pf_var 1) (pf_var 3)) (pf_op fop_add (pf_int) (pf_ix (fix_d2 hr.u1) (pf_var 1) (pf_bty fb_tuple (T.free 33) bb_tuple (pf_cons (pf_lc (own := [("place", 5)]) rfl sc.nd (pfi_seq (pf_var 3)) (blkOk_by (by rfl)) (fun s H C cl fp => pfg_nm sc.nd) (fun s H C cl fp => pfts_one (pft_cmp (fop_notInK hr.u65) (pf_var 5) (pf_var 4) (by rfl))) (fun s H C cl fp => pf_var 5)) (pf_nil))))) (nomark _)) (pfs_one (pfs_ret (pf_bl))) (pfs_nil))))))
    (pfs_one (pfs_ret (pf_bl)))))
theorem sc_are_floors : FnScope ["web", "floors", "number", "sets", "some", "part"] ["web", "floors", "number"] (defScope s_are_floors) := ⟨rfl, rfl, rfl, by decide +kernel, rfl, by decide +kernel, by decide +kernel⟩
theorem ok_are_floors (T : TxOk fa fn K mg base) : Df P w K mg base "are_floors" 7 ["web", "floors", "number"] [false, false, false] m_are_floors := by
  refine dfOk (bd := b_are_floors) T 25 25 sc_are_floors (by decide) (fun _ _ _ _ _ _ us hl => match us, hl with | [_, _, _], _ => rfl) ?_
  intro f cdv A outer s H vs E hr
  have sc := sc_are_floors
  exact pfs_cons (pfs_expr (pf_callD (ok_need_web T) (hr.mono (by decide)) (fun σ => passAt (takes_of rfl rfl rfl rfl) σ) (pf_cons (pf_var 0) (pf_nil))))
    (pfs_cons (pfs_set (i := 3) sc.nd (pf_callD (ok_all_sets T) (hr.mono (by decide)) (fun σ => passAt (takes_of rfl rfl rfl rfl) σ) (pf_cons (pf_ix (fix_d2 hr.u1) (pf_var 0) (pf_int)) (pf_nil))))
    (pfs_cons (pfs_if (pft_W (pfw_or (pft_cmp (fop_ne hr.u64) (pf_blt fb_len2 (T.free 31) bb_len (pf_cons (pf_var 1) (pf_nil))) (pf_blt fb_len (T.free 31) bb_len (pf_cons (pf_var 3) (pf_nil))) (nomark _)) (pfw_or1 (pft_not (pft_B (pf_blt (fb_all rfl) (T.free 37) bb_all (pf_cons (pf_lc (own := [("some", 4)]) rfl sc.nd (pfi_seq (pf_var 3)) (blkOk_by (by rfl)) (fun s H C cl fp => pfg_nm sc.nd) (fun s H C cl fp => pfts_nil) (fun s H C cl fp => pf_cmp (fop_inK hr.u65) (pf_var 4) (pf_var 1) (by rfl))) (pf_nil)))))))) (pfs_one (pfs_ret (pf_bl))) (pfs_nil))
    (pfs_cons (pfs_for (ws := [4]) (wp := [4, 5]) (passes_of rfl) rfl (pfi_seq (pf_var 3)) (pfg_nm sc.nd) (pfs_cons (pfs_if (pft_W (pfw_and (pft_cmp (fop_eq hr.u64) (pf_var 4) (pf_tup (pf_nil)) (nomark _)) (pfw_and1 (pft_cmp fop_gt (pf_ix (fix_d2 hr.u1) (pf_var 1) (pf_var 4)) (pf_int) (nomark _))))) (pfs_one (pfs_ret (pf_bl))) (pfs_nil))
    (pfs_one (pfs_if (pft_W (pfw_and (pft_cmp (fop_ne hr.u64) (pf_var 4) (pf_tup (pf_nil)) (nomark _)) (pfw_and1 (pft_not (pft_B (pf_blt (fb_all rfl) (T.free 37) bb_all (pf_cons (pf_lc (own := [("part", 5)]) rfl sc.nd (pfi_seq (pf_callD (ok_first_parts T) (hr.mono (by decide)) (fun σ => passAt (takes_of rfl rfl rfl rfl) σ) (pf_cons (pf_var 0) (pf_cons (pf_var 4) (pf_nil))))) (blkOk_by (by rfl)) (fun s H C cl fp => pfg_nm sc.nd) (fun s H C cl fp => pfts_nil) (fun s H C cl fp => pf_cmp fop_le (pf_ix (fix_d2 hr.u1) (pf_var 1) (pf_var 4)) (pf_op fop_add (pf_ix (fix_d2 hr.u1) (pf_var 1) (pf_callD (ok_without T) (hr.mono (by decide)) pass0At (pf_cons (pf_var 4) (pf_cons (pf_var 5) (pf_nil))))) (pf_int)) (nomark _))) (pf_nil)))))))) (pfs_one (pfs_ret (pf_bl))) (pfs_nil)))))
    (pfs_one (pfs_ret (pf_cmp fop_ge (pf_ix (fix_d2 hr.u1) (pf_var 1) (pf_ix (fix_d2 hr.u1) (pf_var 3) (pf_un fun_neg (pf_int)))) (pf_var 2) (nomark _)))))))
theorem sc__law_afloors_right : FnScope ["web", "floors", "handed", "due", "last", "number", "found"] ["web", "floors"] (defScope s__law_afloors_right) := ⟨rfl, rfl, rfl, by decide +kernel, rfl, by decide +kernel, by decide +kernel⟩
theorem ok__law_afloors_right (T : TxOk fa fn K mg base) : Df P w K mg base "_law_afloors_right" 8 ["web", "floors"] [false, false] m__law_afloors_right := by
  refine dfOk (bd := b__law_afloors_right) T 26 26 sc__law_afloors_right (by decide) (fun _ _ _ _ _ _ us hl => match us, hl with | [_, _], _ => rfl) ?_
  intro f cdv A outer s H vs E hr
  have sc := sc__law_afloors_right
  exact pfs_cons (pfs_set (i := 2) sc.nd (pf_bty (fb_dictT rfl hr.u2) (T.free 43) bb_dict (pf_cons (pf_var 1) (pf_nil))))
    (pfs_cons (pfs_set (i := 3) sc.nd (pf_callD (ok__law_aare_floors T) (hr.mono (by decide)) (fun σ => passAt (takes_of rfl rfl rfl rfl) σ) (pf_cons (pf_var 0) (pf_cons (pf_var 1) (pf_nil)))))
    (pfs_cons (pfs_set (i := 4) sc.nd (pf_dget3 1 hr.u1 (pv 1) (pf_tRg1 rfl (T.free 33) (T.free 32) (pf_ix (fix_d2 hr.u1) (pf_var 0) (pf_int))) (pf_int) ⟨rfl, rfl, rfl, rfl⟩))
    (pfs_cons (pfs_for (ws := [5]) (wp := [5, 6]) (passes_of rfl) rfl (pfi_seq (pf_lst (pf_cons (pf_var 4) (pf_cons (pf_op fop_add (pf_var 4) (pf_int)) (pf_cons (pf_op fop_sub (pf_var 4) (pf_int)) (pf_cons (pf_un fun_neg (pf_int)) (pf_cons (pf_powC 100000000000000000000) (pf_nil)))))))) (pfg_nm sc.nd) (pfs_cons (pfs_set (i := 6) sc.nd (pf_callD (ok_are_floors T) (hr.mono (by decide)) (fun σ => passAt (takes_of rfl rfl rfl rfl) σ) (pf_cons (pf_var 0) (pf_cons (pf_var 2) (pf_cons (pf_var 5) (pf_nil))))))
    (pfs_one (pfs_if (pft_W (pfw_or (pft_not (pft_B (pf_isinst .bool (pf_var 6) (T.free 34) (T.free 36) bb_bool))) (pfw_or (pft_cmp (fop_ne hr.u64) (pf_var 6) (pf_and (pf_var 3) (pf_one (pf_cmp fop_ge (pf_var 4) (pf_var 5) (nomark _)))) (nomark _)) (pfw_or1 (pft_cmp (fop_neT hr.u64) (pf_var 2) (pf_var 1) (nomark _)))))) (pfs_one (pfs_ret (pf_bl))) (pfs_nil)))))
    (pfs_one (pfs_ret (pf_bl))))))
theorem sc_law : FnScope ["script", "start", "tape", "web", "k", "hues", "floors", "dicts", "some", "other", "bent", "one"] ["script"] (defScope s_law) := ⟨rfl, rfl, rfl, by decide +kernel, rfl, by decide +kernel, by decide +kernel⟩
theorem lawFn (T : TxOk fa fn K mg base) {f : Addr} {fd : FuncData} (F : FunD K "law" "law" (defArgs s_law) (defBody s_law) (defScope s_law) [] [] f fd) : FnOk P w K mg base (L2.CX P w) 9 f fd ["script"] (liftSp K mg (ioOf [false]) 1 m_law) := by
  refine okF (bd := b_law) (funOf F) sc_law (by decide) ?_
  intro cdv A outer s H vs E hr
  have sc := sc_law
  exact pfs_cons (pfs_for (ws := [1]) (wp := [1, 2, 3, 4, 5, 6, 7, 8, 9, 10, 11]) (passes_of rfl) rfl (pfi_range2 rfl (T.free 32) (pf_cons (pf_int) (pf_cons (pf_blt (fb_max2 rfl) (T.free 38) bb_max (pf_cons (pf_int) (pf_cons (pf_blt (fb_min2 rfl) (T.free 39) bb_min (pf_cons (pf_int) (pf_cons (pf_blt fb_len (T.free 31) bb_len (pf_cons (pf_var 0) (pf_nil))) (pf_nil)))) (pf_nil)))) (pf_nil)))) (pfg_nm sc.nd) (pfs_cons (pfs_set (i := 2) sc.nd (pf_callD (ok__law_atape T) (hr.mono (by decide)) (fun σ => passAt (takes_of rfl rfl rfl rfl) σ) (pf_cons (pf_var 0) (pf_cons (pf_var 1) (pf_nil)))))
    (pfs_cons (pfs_set (i := 3) sc.nd (pf_callD (ok__law_aweb T) (hr.mono (by decide)) (fun σ => passAt (takes_of rfl rfl rfl rfl) σ) (pf_cons (pf_var 2) (pf_cons (pf_int) (pf_nil)))))
    (pfs_cons (pfs_unp (ws := [4, 5, 6]) (pf_callD (ok_fewest T) (hr.mono (by decide)) (fun σ => passAt (takes_of rfl rfl rfl rfl) σ) (pf_cons (pf_var 3) (pf_nil))) (pfg_tup rfl (pfgs_cons (pfg_nm sc.nd) (pfgs_cons (pfg_nm sc.nd) (pfgs_cons (pfg_nm sc.nd) (pfgs_nil)))) rfl rfl tp3))
    (pfs_cons (pfs_if (pft_not (pft_B (pf_callD (ok__law_ahues_right T) (hr.mono (by decide)) (fun σ => passAt (takes_of rfl rfl rfl rfl) σ) (pf_cons (pf_var 2) (pf_cons (pf_var 3) (pf_cons (pf_var 5) (pf_nil))))))) (pfs_one (pfs_ret (pf_bl))) (pfs_nil))
    (pfs_cons (pfs_set (i := 7) sc.nd (pf_lst (pf_cons (pf_var 6) (pf_cons (pf_bty (fb_dictT rfl hr.u2) (T.free 43) bb_dict (pf_cons (pf_lcT (own := [("some", 8)]) 6 rfl sc.nd (pv 6) (blkOk_by (by rfl)) (fun s H C cl fp => pfg_nm sc.nd) (fun s H C cl fp => pfts_nil) (fun s H C cl fp => pf_tup (pf_cons (pf_var 8) (pf_cons (pf_int) (pf_nil))))) (pf_nil))) (pf_cons (pf_emT) (pf_nil))))))
    (pfs_cons (pfs_expr (pf_lm 7 PySem.F.slot_list_append PySem.F.type_list_append fm_append (pf_cons (pf_bty (fb_dictT rfl hr.u2) (T.free 43) bb_dict (pf_cons (pf_lcT (own := [("some", 8)]) 6 rfl sc.nd (pv 6) (blkOk_by (by rfl)) (fun s H C cl fp => pfg_nm sc.nd) (fun s H C cl fp => pfts_nil) (fun s H C cl fp => pf_tup (pf_cons (pf_var 8) (pf_cons (pf_op fop_add (pf_ix (fix_d2 hr.u1) (pf_var 6) (pf_var 8)) (pf_int)) (pf_nil))))) (pf_nil))) (pf_nil)) (pv 7)))
    (pfs_cons (pfs_expr (pf_lm 7 PySem.F.slot_list_append PySem.F.type_list_append fm_append (pf_cons (pf_bty (fb_dictT rfl hr.u2) (T.free 43) bb_dict (pf_cons (pf_lcT (own := [("some", 8)]) 6 rfl sc.nd (pv 6) (blkOk_by (by rfl)) (fun s H C cl fp => pfg_nm sc.nd) (fun s H C cl fp => pfts_nil) (fun s H C cl fp => pf_tup (pf_cons (pf_var 8) (pf_cons (pf_callD (ok__law_adigit T) (hr.mono (by decide)) pass0At (pf_cons (pf_var 2) (pf_cons (pf_int) (pf_nil)))) (pf_nil))))) (pf_nil))) (pf_nil)) (pv 7)))
    (pfs_cons (pfs_forT (ws := [8]) (wp := [8, 9, 10]) 6 (passes_of rfl) rfl (pv 6) (pfg_nm sc.nd) (pfs_cons (pfs_for (ws := [9]) (wp := [9, 10]) (passes_of rfl) rfl (pfi_seq (pf_lst (pf_cons (pf_op fop_add (pf_ix (fix_d2 hr.u1) (pf_var 6) (pf_var 8)) (pf_int)) (pf_cons (pf_op fop_sub (pf_ix (fix_d2 hr.u1) (pf_var 6) (pf_var 8)) (pf_int)) (pf_nil))))) (pfg_nm sc.nd) (pfs_cons (pfs_set (i := 10) sc.nd (pf_bty (fb_dictT rfl hr.u2) (T.free 43) bb_dict (pf_cons (pf_var 6) (pf_nil))))
    (pfs_cons (pfs_setD 10 hr.u1 (pf_var 9) (pv 10) (pf_var 8))
    (pfs_one (pfs_expr (pf_lm 7 PySem.F.slot_list_append PySem.F.type_list_append fm_append (pf_cons (pf_var 10) (pf_nil)) (pv 7)))))))
    (pfs_cons (pfs_set (i := 10) sc.nd (pf_bty (fb_dictT rfl hr.u2) (T.free 43) bb_dict (pf_cons (pf_var 6) (pf_nil))))
    (pfs_cons (pfs_expr (pf_popD 10 hr.u1 (pv 10) (pf_var 8)))
    (pfs_cons (pfs_expr (pf_lm 7 PySem.F.slot_list_append PySem.F.type_list_append fm_append (pf_cons (pf_var 10) (pf_nil)) (pv 7)))
    (pfs_cons (pfs_set (i := 10) sc.nd (pf_bty (fb_dictT rfl hr.u2) (T.free 43) bb_dict (pf_cons (pf_var 10) (pf_nil))))
    (pfs_cons (pfs_setD 10 hr.u1 (pf_ix (fix_d2 hr.u1) (pf_var 6) (pf_var 8)) (pv 10) (pf_ix (fix_d2 hr.u1) (pf_lst (pf_cons (pf_tup (pf_cons (pf_ix (fix_d2 hr.u1) (pf_var 3) (pf_int)) (pf_nil))) (pf_cons (pf_tup (pf_cons (pf_int) (pf_cons (pf_int) (pf_nil)))) (pf_cons (pf_tup (pf_cons (pf_int) (pf_cons (pf_int) (pf_nil)))) (pf_nil))))) (pf_op fop_mod (pf_blt fb_len (T.free 31) bb_len (pf_cons (pf_var 8) (pf_nil))) (pf_int))))
    (pfs_one (pfs_expr (pf_lm 7 PySem.F.slot_list_append PySem.F.type_list_append fm_append (pf_cons (pf_var 10) (pf_nil)) (pv 7)))))))))))
    (pfs_cons (pfs_set (i := 10) sc.nd (pf_bty (fb_dictT rfl hr.u2) (T.free 43) bb_dict (pf_cons (pf_var 6) (pf_nil))))
    (pfs_cons (pfs_setD 10 hr.u1 (pf_int) (pv 10) (pf_tup (pf_cons (pf_int) (pf_cons (pf_int) (pf_nil)))))
    (pfs_one (pfs_for (ws := [11]) (wp := [11]) (passes_of rfl) rfl (pfi_seq (pf_op fop_add (pf_var 7) (pf_lst (pf_cons (pf_var 10) (pf_nil))))) (pfg_nm sc.nd) (pfs_one (pfs_if (pft_not (pft_B (pf_callD (ok__law_afloors_right T) (hr.mono (by decide)) (fun σ => passAt (takes_of rfl rfl rfl rfl) σ) (pf_cons (pf_var 3) (pf_cons (pf_var 11) (pf_nil)))))) (pfs_one (pfs_ret (pf_bl))) (pfs_nil))))))))))))))))
    (pfs_one (pfs_ret (pf_bl)))
end
end Lk23
namespace Lk23
open PySem PySem.Spec PyProof.Rows L2 Hs
theorem facts {P : Program} {w : World} {K : PySem.W.Frag} {h : Heap} {mg : Str → Option Value} {f : Addr} (X : K.In h) (G : h.Ns mainGlobals mg) (hfa : mg ("law" : Str) = some (.ref f)) (c : He.SaysD fa fn K) :
    ∃ fd : FuncData, (∀ (s : Shared) (u : Value), BindsTo s fd ⟨[u], []⟩ [("script", u)]) ∧ ∀ base : Heap, K.In base → base.Ns mainGlobals mg → FnOk P w K mg base (L2.CX P w) 9 f fd ["script"] (liftSp K mg (ioOf [false]) 1 m_law) := by
  obtain ⟨fd, F⟩ := c.def_ 27 (d := dOf "law" s_law) rfl
  have T0 : TxOk fa fn K mg h := ⟨c, X, G⟩
  have e := hfa.symm.trans (T0.glo 27)
  cases e
  have b := FunD.bindsA (ps := ["script"]) F fun _ _ _ _ _ _ us hl => match us, hl with | [_], _ => rfl
  refine ⟨fd, fun s u => b s [u] rfl, fun base hX hG => ?_⟩
  exact lawFn ⟨c, hX, hG⟩ F
end Lk23
namespace Lk23
open PySem Hs
local macro_rules
  | `(tactic| sizeOf_list_dec) => `(tactic| first
    | with_reducible refine st_seq ?_ | with_reducible refine st_asg ?_ | with_reducible refine st_cons ?_ | with_reducible refine st_nil ?_ | with_reducible refine st_C ?_ | with_reducible refine st_op ?_
    | with_reducible refine st_var_d ?_ | with_reducible refine st_var_l ?_ | with_reducible refine st_var_ll ?_ | with_reducible refine st_var_dc ?_
    | with_reducible refine st_look_d ?_ | with_reducible refine st_look_top ?_ | with_reducible refine st_look_top_d ?_ | with_reducible refine st_look_own ?_ | with_reducible refine st_look_top_dc ?_ | with_reducible refine st_look_own_dc ?_ | with_reducible refine st_put_d ?_ | with_reducible refine st_put_own ?_ | with_reducible refine st_put_top_l ?_ | with_reducible refine st_put_top_ll ?_ | with_reducible refine st_put_top_dc ?_
    | ((with_reducible refine st_callF ?_ ?_); eq_refl) | with_reducible refine st_call ?_ | with_reducible refine st_putK_nil ?_ | with_reducible refine st_putK_t ?_ | with_reducible refine st_putK_f ?_ | with_reducible refine st_putK_td ?_ | with_reducible refine st_putK_to ?_ | with_reducible refine st_bind_nil ?_ | with_reducible refine st_bind_f ?_ | with_reducible refine st_bind_tt ?_ | with_reducible refine st_bind_td ?_ | with_reducible refine st_bind_to ?_
    | with_reducible refine st_frz_d ?_ | with_reducible refine st_frz_own ?_ | with_reducible refine st_frz_top ?_ | with_reducible refine st_frz_own_ll ?_ | with_reducible refine st_frz_own_dc ?_ | with_reducible refine st_frz_top_ll ?_ | with_reducible refine st_frz_top_dc ?_ | with_reducible refine st_frzAll_nil ?_ | with_reducible refine st_frzAll_cons ?_
    | with_reducible refine st_if ?_ | with_reducible refine st_B ?_ | with_reducible refine st_and ?_ | with_reducible refine st_or ?_ | with_reducible refine st_not ?_ | with_reducible refine st_yes ?_ | with_reducible refine st_isB ?_ | with_reducible refine st_t ?_ | with_reducible refine st_f ?_ | ((with_reducible refine st_iteT ?_ ?_); decide) | ((with_reducible refine st_iteF ?_ ?_); decide)
    | with_reducible refine st_nt ?_ | with_reducible refine st_nf ?_
    | with_reducible refine st_ret ?_ | with_reducible refine st_next ?_ | with_reducible refine st_retN ?_ | with_reducible refine st_drop ?_ | with_reducible refine st_break ?_ | with_reducible refine st_raise ?_
    | with_reducible refine st_out_d ?_ | with_reducible refine st_out_own ?_ | with_reducible refine st_out_top ?_
    | with_reducible refine st_tup ?_ | with_reducible refine st_lst ?_ | with_reducible refine st_un ?_ | with_reducible refine st_blt ?_ | with_reducible refine st_lookAll_nil ?_ | with_reducible refine st_lookAll_cons ?_
    | with_reducible refine st_unp ?_ | with_reducible refine st_par ?_ | with_reducible refine st_setIx ?_ | with_reducible refine st_onL ?_ | with_reducible refine st_for ?_ | with_reducible refine st_wipe_nil ?_ | with_reducible refine st_wipe_cons ?_ | with_reducible refine st_andV ?_ | with_reducible refine st_orV ?_ | with_reducible refine st_notV ?_ | with_reducible refine st_ifE ?_ | with_reducible refine st_chain ?_
    | with_reducible refine st_sl ?_ | with_reducible refine st_noPart ?_ | with_reducible refine st_part ?_ | with_reducible refine st_lc ?_ | with_reducible refine st_lm ?_
    | with_reducible refine st_seqI ?_ | with_reducible refine st_range1 ?_ | with_reducible refine st_range2 ?_ | with_reducible refine st_enum ?_ | with_reducible refine st_zip ?_
    | with_reducible refine st_nm ?_ | with_reducible refine st_tp ?_ | with_reducible refine st_tps_nil ?_ | with_reducible refine st_tps_cons ?_
    | ((with_reducible refine st_mod_i ?_ ?_); (first | decide | omega)) | ((with_reducible refine st_fdiv_i ?_ ?_); decide) 
    | with_reducible refine st_add_i ?_ | with_reducible refine st_sub_i ?_ | with_reducible refine st_neg_i ?_ | with_reducible refine st_eq_i ?_ | with_reducible refine st_ne_i ?_ | with_reducible refine st_eq_str ?_ | with_reducible refine st_ne_str ?_ | with_reducible refine st_eq_b ?_ | with_reducible refine st_ne_b ?_ | with_reducible refine st_lt_i ?_ | with_reducible refine st_le_i ?_ | with_reducible refine st_gt_i ?_ | with_reducible refine st_ge_i ?_
    | with_reducible refine st_is_n ?_ | with_reducible refine st_isNot_n ?_ | with_reducible refine st_is_b ?_ | with_reducible refine st_isNot_b ?_ | ((with_reducible refine st_ix_l (x := ?_) ?_ ?_); rotate_left; eq_refl) | ((with_reducible refine st_ix_t (x := ?_) ?_ ?_); rotate_left; eq_refl) | with_reducible refine st_len_l ?_ | with_reducible refine st_len_t ?_ | with_reducible refine st_len_lit ?_
    | with_reducible refine st_abs ?_ | with_reducible refine st_max2 ?_ | with_reducible refine st_min2 ?_ | with_reducible refine st_int_i ?_ | with_reducible refine st_int_b ?_ | with_reducible refine st_tuple_l ?_ | with_reducible refine st_tuple_t ?_ | with_reducible refine st_list_l ?_ | with_reducible refine st_list_t ?_ | ((with_reducible refine st_isT ?_ ?_); eq_refl) | ((with_reducible refine st_isTT ?_ ?_); eq_refl) | ((with_reducible refine st_isTF ?_ ?_); eq_refl) | ((with_reducible refine st_isNT ?_ ?_); eq_refl) | ((with_reducible refine st_isNF ?_ ?_); eq_refl)
    | with_reducible refine st_rg1 ?_ | with_reducible refine st_rg2 ?_ | with_reducible refine st_enumL ?_ | with_reducible refine st_zipS ?_ | with_reducible refine st_rev_l ?_ | with_reducible refine st_rev_t ?_
    | with_reducible refine st_ne_ll ?_ | with_reducible refine st_ne_lit ?_ | with_reducible refine st_in_pt ?_ | with_reducible refine st_in_pl ?_
    | with_reducible refine st_sl_l ?_ | with_reducible refine st_sl_t ?_
    | ((with_reducible refine st_iteLen ?_ ?_); eq_refl) | ((with_reducible refine st_iteNLen ?_ ?_); eq_refl) | with_reducible refine st_iteBB ?_ | ((with_reducible refine st_iteND ?_ ?_); omega) | ((with_reducible refine st_iteNF ?_ ?_); omega)
    | ((with_reducible refine st_iteT (decide_eq_true ?_) ?_); omega) | ((with_reducible refine st_iteF (decide_eq_false ?_) ?_); omega))
local macro_rules
  | `(tactic| sizeOf_list_dec) => `(tactic| with_reducible refine stepTo ?_)
local macro_rules
  | `(tactic| array_get_dec) => `(tactic| repeat sizeOf_list_dec)
local macro_rules
  | `(tactic| sizeOf_list_dec) => `(tactic| first | with_reducible refine st_ix2_l ?_ | with_reducible refine st_ix2_t ?_ | with_reducible refine st_ix2_s ?_ | with_reducible refine st_ix2_lit ?_ | with_reducible refine st_inK_l ?_ | with_reducible refine st_inK_t ?_ | with_reducible refine st_ninK_l ?_ | with_reducible refine st_ninK_t ?_ | with_reducible refine st_setD ?_ | with_reducible refine st_onDc ?_ | with_reducible refine st_dget2 ?_ | with_reducible refine st_emT ?_ | with_reducible refine st_emD ?_ | with_reducible refine st_disp1 ?_ | with_reducible refine st_disp1k ?_ | with_reducible refine st_range3 ?_ | with_reducible refine st_bor ?_ | with_reducible refine st_borT ?_ | with_reducible refine st_bindT_nil ?_ | with_reducible refine st_bindT_d ?_ | with_reducible refine st_bindT_o ?_ | with_reducible refine st_bindT_t ?_ | with_reducible refine st_toPs_nil ?_ | with_reducible refine st_toPs_d ?_ | with_reducible refine st_toPs_l ?_ | with_reducible refine st_toPs_dc ?_ | with_reducible refine st_tupO ?_ | with_reducible refine st_var_tp ?_ | with_reducible refine st_frz_own_tp ?_ | with_reducible refine st_frz_top_tp ?_ | with_reducible refine st_lmP ?_ | ((with_reducible refine st_onP ?_ ?_); eq_refl) | with_reducible refine st_flat_b ?_ | with_reducible refine st_flat_i ?_)
theorem is_whole_ok {z : Int} {X : XF} {Q : R → S → Prop} (h : ∀ fin, Q (.d (.bool true)) fin) : m_is_whole [.d (.int z)] X Q := by
  unfold m_is_whole b_is_whole
  refine st_sem rfl ?_
  array_get_dec
  exact h _
local macro_rules
  | `(tactic| sizeOf_list_dec) => `(tactic| with_reducible refine is_whole_ok fun _ => ?_)
theorem is_below_ok {z m : Int} {X : XF} {Q : R → S → Prop} (h : ∀ fin, Q (.d (.bool (decide (0 ≤ z ∧ z < m)))) fin) : m_is_below [.d (.int z), .d (.int m)] X Q := by
  unfold m_is_below b_is_below
  refine st_sem rfl ?_
  array_get_dec
  refine st_ite (fun q => ?_) (fun q => ?_)
  · have q := of_decide_eq_true q
    array_get_dec
    rw [show decide (z < m) = decide (0 ≤ z ∧ z < m) by simp [q]]
    exact h _
  · have q := of_decide_eq_false q
    array_get_dec
    rw [show false = decide (0 ≤ z ∧ z < m) by simp [q]]
    exact h _
theorem is_tie_ok {n : Int} {p : Int × Int} (hp : 0 ≤ p.1 ∧ p.1 < p.2 ∧ p.2 < n) {X : XF} {Q : R → S → Prop} (h : ∀ fin, Q (.d (.bool true)) fin) : m_is_tie [.d (.int n), .d (pairD p)] X Q := by
  unfold m_is_tie b_is_tie
  refine st_sem rfl ?_
  array_get_dec
  refine is_below_ok fun fin => ?_
  rw [decide_eq_true (show 0 ≤ p.1 ∧ p.1 < n by omega)]
  array_get_dec
  refine is_below_ok fun fin => ?_
  rw [decide_eq_true (show 0 ≤ p.2 ∧ p.2 < n by omega)]
  array_get_dec
  rw [decide_eq_true hp.2.1]
  exact h _
theorem is_rising_ok {ts : List (Int × Int)} (hs : ts.Pairwise (fun p q => ltPr p q = true)) (hl : ts.length ≤ 1000) {X : XF} {Q : R → S → Prop} (h : ∀ fin, Q (.d (.bool true)) fin) : m_is_rising [.d (.tuple (ts.map pairD))] X Q := by
  unfold m_is_rising b_is_rising
  refine st_sem rfl ?_
  array_get_dec
  rw [List.length_map]
  refine ⟨by unfold lim62; omega, ?_⟩
  array_get_dec
  refine ⟨by rw [rangeD_len]; show _ ≤ 16777216; omega, ?_⟩
  array_get_dec
  refine comp_true (fun x hx kT hk => ?_) ?_
  · obtain ⟨t, ht, rfl⟩ := List.mem_map.mp (show x ∈ (List.range ((ts.length : Int) - 1).toNat).map fun (k : Nat) => PyData.int (0 + (k : Int)) from hx)
    have ht := List.mem_range.mp ht
    have h1 : t < ts.length := by omega
    have h2 : t + 1 < ts.length := by omega
    have g1 : L2.atI (ts.map pairD) (0 + (t : Int)) = some (pairD ts[t]) := by
      rw [Int.zero_add]
      exact L2.atI_nat (by rw [List.getElem?_map, List.getElem?_eq_getElem h1]; rfl)
    have g2 : L2.atI (ts.map pairD) (0 + (t : Int) + 1) = some (pairD ts[t + 1]) := by
      rw [Int.zero_add]
      exact L2.atI_nat (j := t + 1) (by rw [List.getElem?_map, List.getElem?_eq_getElem h2]; rfl)
    array_get_dec
    refine st_ix_t g1 ?_
    array_get_dec
    refine st_ix_t g2 ?_
    array_get_dec
    refine st_lt_t (ns := [ts[t].1, ts[t].2]) (ms := [ts[t + 1].1, ts[t + 1].2]) rfl rfl ?_
    rw [lex_pair, List.pairwise_iff_getElem.mp hs t (t + 1) h1 h2 (Nat.lt_succ_self t)]
    array_get_dec
    exact hk
  · array_get_dec
    refine st_all_true ?_
    array_get_dec
    exact h _
theorem are_ties_ok {n : Int} {ts : List (Int × Int)} (g : Good n ts) {X : XF} {Q : R → S → Prop} (h : ∀ fin, Q (.d (.bool true)) fin) : m_are_ties [.d (.int n), .d (.tuple (ts.map pairD))] X Q := by
  unfold m_are_ties b_are_ties
  refine st_sem rfl ?_
  array_get_dec
  refine ⟨by rw [List.length_map]; have := g.few; show _ ≤ 16777216; omega, ?_⟩
  array_get_dec
  refine comp_true (fun x hx kT hk => ?_) ?_
  · obtain ⟨p, hp, rfl⟩ := List.mem_map.mp hx
    array_get_dec
    refine is_tie_ok (g.ties p hp) fun fin => ?_
    array_get_dec
    exact hk
  · array_get_dec
    refine st_all_true ?_
    array_get_dec
    refine is_rising_ok g.up g.few fun fin => ?_
    array_get_dec
    exact h _
theorem is_web_ok {n : Int} {ts : List (Int × Int)} (g : Good n ts) {X : XF} {Q : R → S → Prop} (h : ∀ fin, Q (.d (.bool true)) fin) : m_is_web [.d (webD n ts)] X Q := by
  unfold m_is_web b_is_web
  refine st_sem rfl ?_
  have h1 := g.n0
  have h2 := g.n10
  array_get_dec
  refine is_below_ok fun fin => ?_
  rw [decide_eq_true (show 0 ≤ n ∧ n < 10 + 1 by omega)]
  array_get_dec
  refine are_ties_ok g fun fin => ?_
  array_get_dec
  exact h _
theorem need_web_ok {n : Int} {ts : List (Int × Int)} (g : Good n ts) {X : XF} {Q : R → S → Prop} (h : ∀ fin, Q (.d .none) fin) : m_need_web [.d (webD n ts)] X Q := by
  unfold m_need_web b_need_web
  refine st_sem rfl ?_
  array_get_dec
  refine is_web_ok g fun fin => ?_
  array_get_dec
  exact h _
def Tb (ts : List (Int × Int)) (a b : Int) : Bool := decide ((min a b, max a b) ∈ ts)
theorem Tb_symm {ts : List (Int × Int)} {a b : Int} : Tb ts a b = Tb ts b a := by
  unfold Tb
  rw [Int.min_comm, Int.max_comm]
theorem tied_in_ok {n a b : Int} {ts : List (Int × Int)} {X : XF} {Q : R → S → Prop} (h : ∀ fin, Q (.d (.bool (decide ((min a b, max a b) ∈ ts)))) fin) : m_tied_in [.d (webD n ts), .d (.int a), .d (.int b)] X Q := by
  unfold m_tied_in b_tied_in
  refine st_sem rfl ?_
  array_get_dec
  exact h _
theorem cut_to {α : Type} {f : α → D} {ks : List α} {i : Nat} : slD.cutL (ks.map f) none (some (i : Int)) = (ks.take i).map f := by
  unfold slD.cutL
  rw [HT.sIx_none, HT.sIx_nat, List.length_map, Nat.sub_zero, List.drop_zero, ← List.map_take]
  congr 1
  by_cases h : i ≤ ks.length
  · rw [Nat.min_eq_left h]
  · rw [Nat.min_eq_right (by omega), List.take_of_length_le (by omega), List.take_of_length_le (by omega)]
theorem cut_from {α : Type} {f : α → D} {ks : List α} {i : Nat} : slD.cutL (ks.map f) (some (i : Int)) none = (ks.drop i).map f := by
  unfold slD.cutL
  rw [HT.sIx_none, HT.sIx_nat, List.length_map, ← List.map_drop, ← List.map_take]
  congr 1
  by_cases h : i ≤ ks.length
  · rw [Nat.min_eq_left h, List.take_of_length_le (by rw [List.length_drop]; omega)]
  · rw [Nat.min_eq_right (by omega), List.drop_eq_nil_of_le (by omega), List.drop_eq_nil_of_le (by omega), List.take_nil]
theorem any_int {ks : List Int} {z : Int} : ((ks.map PyData.int).any fun y => PyData.eqv y (.int z)) = decide (z ∈ ks) := by
  rw [List.any_map]
  apply Bool.eq_iff_iff.mpr
  simp only [List.any_eq_true, Function.comp, decide_eq_true_eq]
  constructor
  · rintro ⟨y, h, e⟩
    have e : decide (y = z) = true := by simpa [PyData.eqv] using e
    rw [← of_decide_eq_true e]; exact h
  · intro h; exact ⟨z, h, by simp [PyData.eqv]⟩
theorem st_in_il {ks : List Int} {z : Int} {k : R → Prop} (h : k (.d (.bool (decide (z ∈ ks))))) : cIn (.int z) (.list (ks.map .int)) k := by
  refine st_in_l shaped_int shaped_intsL ?_
  rw [any_int]; exact h
theorem st_in_it {ks : List Int} {z : Int} {k : R → Prop} (h : k (.d (.bool (decide (z ∈ ks))))) : cIn (.int z) (.tuple (ks.map .int)) k := by
  refine st_in_t shaped_int shaped_intsT ?_
  rw [any_int]; exact h
theorem st_notIn_il {ks : List Int} {z : Int} {k : R → Prop} (h : k (.d (.bool (!decide (z ∈ ks))))) : cNotIn (.int z) (.list (ks.map .int)) k := by
  refine st_notIn_l shaped_int shaped_intsL ?_
  rw [any_int]; exact h
theorem st_notIn_it {ks : List Int} {z : Int} {k : R → Prop} (h : k (.d (.bool (!decide (z ∈ ks))))) : cNotIn (.int z) (.tuple (ks.map .int)) k := by
  refine st_notIn_t shaped_int shaped_intsT ?_
  rw [any_int]; exact h
local macro_rules
  | `(tactic| sizeOf_list_dec) => `(tactic| first | with_reducible refine st_in_il ?_ | with_reducible refine st_in_it ?_ | with_reducible refine st_notIn_il ?_ | with_reducible refine st_notIn_it ?_ | with_reducible refine st_ne_ll ?_)
noncomputable def dec (P : Prop) : Bool := @decide P (Classical.propDecidable P)
theorem dec_t {P : Prop} (h : P) : dec P = true := by unfold dec; simp [h]
theorem dec_f {P : Prop} (h : ¬ P) : dec P = false := by unfold dec; simp [h]
def Up (ps : List (Int × Int)) : Prop := ps.Pairwise (fun p q => ltPr p q = true)
theorem ltPr_iff {p q : Int × Int} : ltPr p q = true ↔ p.1 < q.1 ∨ p.1 = q.1 ∧ p.2 < q.2 := by
  unfold ltPr
  simp only [Bool.or_eq_true, decide_eq_true_eq, Bool.and_eq_true, beq_iff_eq]
theorem Up.nodup {ps : List (Int × Int)} (h : Up ps) : ps.Nodup := h.imp fun {a b} h e => by
  subst e
  have := ltPr_iff.mp h
  omega
theorem up_eq : ∀ {ps qs : List (Int × Int)}, Up ps → Up qs → (∀ p, p ∈ ps ↔ p ∈ qs) → ps = qs
  | [], [], _, _, _ => rfl
  | [], q :: qs, _, _, h => nomatch (h q).mpr List.mem_cons_self
  | p :: ps, [], _, _, h => nomatch (h p).mp List.mem_cons_self
  | p :: ps, q :: qs, h1, h2, h => by
    obtain ⟨a1, a2⟩ := List.pairwise_cons.mp h1
    obtain ⟨b1, b2⟩ := List.pairwise_cons.mp h2
    have e : p = q := by
      rcases List.mem_cons.mp ((h p).mp List.mem_cons_self) with e | hp
      · exact e
      · rcases List.mem_cons.mp ((h q).mpr List.mem_cons_self) with e | hq
        · exact e.symm
        · have c1 := ltPr_iff.mp (b1 p hp)
          have c2 := ltPr_iff.mp (a1 q hq)
          omega
    subst e
    rw [up_eq a2 b2 fun r => ?_]
    constructor
    · intro hr
      rcases List.mem_cons.mp ((h r).mp (List.mem_cons_of_mem _ hr)) with e | hr2
      · subst e
        have := ltPr_iff.mp (a1 r hr); omega
      · exact hr2
    · intro hr
      rcases List.mem_cons.mp ((h r).mpr (List.mem_cons_of_mem _ hr)) with e | hr2
      · subst e
        have := ltPr_iff.mp (b1 r hr); omega
      · exact hr2
/-- the rows gone through up to (i, j): just the pairs for which f says yes -/
structure Upto (n : Int) (f : Int → Int → Prop) (i j : Int) (ts : List (Int × Int)) : Prop where
  up : Up ts
  mem : ∀ p, p ∈ ts ↔ 0 ≤ p.1 ∧ p.1 < p.2 ∧ p.2 < n ∧ f p.1 p.2 ∧ (p.1 < i ∨ p.1 = i ∧ p.2 < j)
  few : (ts.length : Int) ≤ 10 * i + j
theorem Upto.start {n : Int} {f : Int → Int → Prop} : Upto n f 0 0 [] := ⟨.nil, fun p => ⟨fun h => (nomatch h), fun ⟨h1, h2, h3, h4, h5⟩ => by omega⟩, by simp⟩
theorem Upto.row {n i : Int} {f : Int → Int → Prop} {ts : List (Int × Int)} (hi : 0 ≤ i) (h : Upto n f i 0 ts) : Upto n f i (i + 1) ts := ⟨h.up, fun p => by
  rw [h.mem]
  constructor
  · rintro ⟨h1, h2, h3, h4, h5⟩; exact ⟨h1, h2, h3, h4, by omega⟩
  · rintro ⟨h1, h2, h3, h4, h5⟩; exact ⟨h1, h2, h3, h4, by omega⟩, by have := h.few; omega⟩
theorem Upto.no {n i j : Int} {f : Int → Int → Prop} {ts : List (Int × Int)} (h : Upto n f i j ts) (hf : ¬ f i j) : Upto n f i (j + 1) ts := ⟨h.up, fun p => by
  rw [h.mem]
  constructor
  · rintro ⟨h1, h2, h3, h4, h5⟩; exact ⟨h1, h2, h3, h4, by omega⟩
  · rintro ⟨h1, h2, h3, h4, h5⟩
    refine ⟨h1, h2, h3, h4, ?_⟩
    by_cases e : p.1 = i ∧ p.2 = j
    · rw [e.1, e.2] at h4; exact (hf h4).elim
    · omega, by have := h.few; omega⟩
/-- all the rows -/
structure Whole (n : Int) (f : Int → Int → Prop) (ts : List (Int × Int)) : Prop where
  up : Up ts
  mem : ∀ p, p ∈ ts ↔ 0 ≤ p.1 ∧ p.1 < p.2 ∧ p.2 < n ∧ f p.1 p.2
  few : ts.length ≤ 1000
theorem Whole.eq {n : Int} {f g : Int → Int → Prop} {ps qs : List (Int × Int)} (h1 : Whole n f ps) (h2 : Whole n g qs) (h : ∀ i j, 0 ≤ i → i < j → j < n → (f i j ↔ g i j)) : ps = qs := up_eq h1.up h2.up fun p => by
  rw [h1.mem, h2.mem]
  constructor
  · rintro ⟨a, b, c, d⟩; exact ⟨a, b, c, (h _ _ a b c).mp d⟩
  · rintro ⟨a, b, c, d⟩; exact ⟨a, b, c, (h _ _ a b c).mpr d⟩
/-- rising pairs below ten are few -/
theorem up_few {ps : List (Int × Int)} (h : Up ps) (hb : ∀ p ∈ ps, 0 ≤ p.1 ∧ p.1 < 10 ∧ 0 ≤ p.2 ∧ p.2 < 10) : ps.length ≤ 100 := by
  have go : ∀ (l : List Nat), l.Pairwise (· < ·) → (∀ x ∈ l, x < 100) → ∀ m, (∀ x ∈ l, m ≤ x) → m ≤ 100 → l.length + m ≤ 100 := by
    intro l
    induction l with
    | nil => intro _ _ m _ h; simpa using h
    | cons a l ih =>
      intro hp hx m hm _
      obtain ⟨h1, h2⟩ := List.pairwise_cons.mp hp
      have := ih h2 (fun x hx' => hx x (List.mem_cons_of_mem _ hx')) (a + 1) (fun x hx' => h1 x hx') (by have := hx a List.mem_cons_self; omega)
      have := hm a List.mem_cons_self
      rw [List.length_cons]
      omega
  have h2 : (ps.map fun p => (p.1 * 10 + p.2).toNat).Pairwise (· < ·) := by
    refine List.pairwise_map.mpr (List.Pairwise.imp_of_mem ?_ h)
    intro a b ha hb' hab
    have h1 := hb a ha
    have h2 := hb b hb'
    have h3 := ltPr_iff.mp hab
    omega
  have := go _ h2 (fun x hx => by
    obtain ⟨p, hp, rfl⟩ := List.mem_map.mp hx
    have := hb p hp
    omega) 0 (fun _ _ => Nat.zero_le _) (by decide)
  simpa using this
theorem good_few {n : Int} {ts : List (Int × Int)} (g : Good n ts) : ts.length ≤ 100 := up_few g.up fun p hp => by have := g.ties p hp; have := g.n10; omega
theorem st_notIn_pt {ts : List (Int × Int)} {a b : Int} {k : R → Prop} (h : k (.d (.bool (!decide ((a, b) ∈ ts))))) : cNotIn (.tuple [.int a, .int b]) (.tuple (ts.map pairD)) k := by
  refine st_notIn_t (shaped_pairD (p := (a, b))) shaped_pairs ?_
  rw [show (PyData.tuple [.int a, .int b]) = pairD (a, b) from rfl, any_pair]
  exact h
local macro_rules
  | `(tactic| sizeOf_list_dec) => `(tactic| with_reducible refine st_notIn_pt ?_)
def rangeF (lo : Int) (n : Nat) : List Int := (List.range n).map fun (k : Nat) => lo + (k : Int)
theorem rangeF_up {lo : Int} {n : Nat} : (rangeF lo n).Pairwise (· < ·) := List.pairwise_map.mpr ((List.pairwise_lt_range (n := n)).imp fun {a b} h => by omega)
/-- a set of places -/
structure Set' (n : Int) (ks : List Int) : Prop where
  up : ks.Pairwise (· < ·)
  lt : ∀ z ∈ ks, 0 ≤ z ∧ z < n
theorem Set'.few {n : Int} {ks : List Int} (h : Set' n ks) (h10 : n ≤ 10) : ks.length ≤ 10 := by
  have go : ∀ (l : List Int), l.Pairwise (· < ·) → (∀ x ∈ l, x < 10) → ∀ m : Int, 0 ≤ m → (∀ x ∈ l, m ≤ x) → m ≤ 10 → (l.length : Int) + m ≤ 10 := by
    intro l
    induction l with
    | nil => intro _ _ m _ _ h; simpa using h
    | cons a l ih =>
      intro hp hx m h0 hm _
      obtain ⟨h1, h2⟩ := List.pairwise_cons.mp hp
      have ha := hx a List.mem_cons_self
      have hma := hm a List.mem_cons_self
      have := ih h2 (fun x hx' => hx x (List.mem_cons_of_mem _ hx')) (a + 1) (by omega) (fun x hx' => by have := h1 x hx'; omega) (by omega)
      rw [List.length_cons]
      omega
  have := go ks h.up (fun x hx => by have := h.lt x hx; omega) 0 (by omega) (fun x hx => (h.lt x hx).1) (by omega)
  omega
def atL (nss : List (List Int)) (i : Int) : List Int := nss.getD i.toNat []
theorem atL_ok {nss : List (List Int)} {i : Int} (h0 : 0 ≤ i) (h1 : i < nss.length) : L2.atI (nss.map tupI) i = some (tupI (atL nss i)) := by
  obtain ⟨a, rfl⟩ := Int.eq_ofNat_of_zero_le h0
  have ha : a < nss.length := by omega
  rw [L2.atI_nat (show (nss.map tupI)[a]? = some (tupI nss[a]) by simp [ha])]
  simp [atL, List.getD_eq_getElem?_getD, ha]
theorem sort_one : ∀ {as bs : List (List Int)}, as.Perm bs → as.Pairwise (fun a b => lexL b a = false) → bs.Pairwise (fun a b => lexL b a = false) → as = bs
  | [], bs, h, _, _ => h.symm.eq_nil.symm
  | a :: as, [], h, _, _ => by cases h.eq_nil
  | a :: as, b :: bs, h, h1, h2 => by
    obtain ⟨p1, p2⟩ := List.pairwise_cons.mp h1
    obtain ⟨q1, q2⟩ := List.pairwise_cons.mp h2
    have e : a = b := by
      rcases List.mem_cons.mp (h.mem_iff.mp List.mem_cons_self) with e | ha
      · exact e
      · rcases List.mem_cons.mp (h.mem_iff.mpr List.mem_cons_self) with e | hb
        · exact e.symm
        · exact lexL_eq (q1 a ha) (p1 b hb)
    subst e
    rw [sort_one h.cons_inv p2 q2]
theorem tupsOf_map : ∀ nss : List (List Int), tupsOf (nss.map tupI) = some nss
  | [] => rfl
  | ns :: nss => by
    show (match tupOf (tupI ns), tupsOf (nss.map tupI) with | some n, some ns => some (n :: ns) | _, _ => none) = _
    rw [tupsOf_map nss, show tupOf (tupI ns) = some ns from intsOf_map' ns]
theorem st_eq_ll {ns ms : List Int} {k : R → Prop} (h : k (.d (.bool (decide (ns = ms))))) : cEq (.list (ns.map .int)) (.list (ms.map .int)) k := by
  refine st_eq (x := .list (ns.map .int)) (y := .list (ms.map .int)) shaped_intsL shaped_intsL ?_
  show k (.d (.bool (PyData.eqvAll (ns.map .int) (ms.map .int))))
  rw [eqv_ints]
  exact h
theorem range_F {n : Nat} : rangeI n = rangeF 0 n := by
  unfold rangeI rangeF
  exact List.map_congr_left fun k _ => by simp
theorem set_rangeF {N lo : Int} {n : Nat} (h0 : 0 ≤ lo) (h1 : lo + n ≤ N) : Set' N (rangeF lo n) := ⟨rangeF_up, fun z hz => by
  obtain ⟨k, hk, rfl⟩ := List.mem_map.mp hz
  have := List.mem_range.mp hk
  omega⟩
def dcT (ps : List (List Int × D)) : List (D × D) := (.none, .none) :: ps.map fun p => (tupI p.1, p.2)
def lkT {α : Type} (ps : List (List Int × α)) (k : List Int) : Option α := (ps.find? fun p => decide (p.1 = k)).map (·.2)
def putL {α : Type} (ps : List (List Int × α)) (k : List Int) (x : α) : List (List Int × α) := if (lkT ps k).isSome = true then ps.map (fun p => if p.1 = k then (p.1, x) else p) else ps ++ [(k, x)]
theorem tupI_keys (ns : List Int) : tupI ns = keysD (ns.map Sum.inl) := by
  unfold tupI keysD
  rw [List.map_map]
  rfl
theorem keysN_ints (ns : List Int) : keysN (ns.map PyData.int) = some (ns.map Sum.inl) := by
  have := keysN_map (ns.map Sum.inl)
  rw [List.map_map] at this
  exact this
theorem map_inl_inj : ∀ {a b : List Int}, a.map (Sum.inl : Int → L2.Key) = b.map Sum.inl → a = b
  | [], [], _ => rfl
  | [], _ :: _, h => by cases h
  | _ :: _, [], h => by cases h
  | x :: a, y :: b, h => by
    rw [List.map_cons, List.map_cons] at h
    injection h with h1 h2
    injection h1 with h1
    rw [h1, map_inl_inj h2]
theorem sameT_tupI (a b : List Int) : sameT (tupI a) (b.map Sum.inl) = decide (a = b) := by
  rw [tupI_keys, sameT_keysD]
  by_cases h : a = b
  · subst h; simp
  · rw [decide_eq_false h, decide_eq_false fun e => h (map_inl_inj e)]
theorem findT (k : List Int) : ∀ ps : List (List Int × D), ((ps.map fun p => ((tupI p.1, p.2) : D × D)).find? fun p => sameT p.1 (k.map Sum.inl)).map (·.2) = lkT ps k
  | [] => rfl
  | p :: ps => by
    have ih := findT k ps
    unfold lkT at ih ⊢
    rw [List.map_cons, List.find?_cons, List.find?_cons]
    dsimp only
    rw [sameT_tupI]
    cases decide (p.1 = k) with
    | true => rfl
    | false => exact ih
theorem dcT_get {ps : List (List Int × D)} {k : List Int} {Q : Option D → Prop} (q : Q (lkT ps k)) : dGet (dcT ps) (tupI k) Q := by
  show (match keysN (k.map PyData.int) with
      | some ks => Q (((ps.map fun p => ((tupI p.1, p.2) : D × D)).find? fun p => sameT p.1 ks).map (·.2))
      | none => False)
  rw [keysN_ints]
  show Q _
  rw [findT]
  exact q
theorem dcT_in {ps : List (List Int × D)} {k : List Int} {P : R → Prop} (q : P (.d (.bool (lkT ps k).isSome))) : cInK (tupI k) (.dict (dcT ps)) P := .inr ⟨_, rfl, dcT_get q⟩
theorem dcT_ix {ps : List (List Int × D)} {k : List Int} {x : D} {P : R → Prop} (e : lkT ps k = some x) (q : P (.d x)) : ixD2 (.dict (dcT ps)) (tupI k) P := .inr ⟨_, rfl, dcT_get ⟨x, e, q⟩⟩
theorem anyT (k : List Int) : ∀ ps : List (List Int × D), ((ps.map fun p => ((tupI p.1, p.2) : D × D)).any fun p => sameT p.1 (k.map Sum.inl)) = (lkT ps k).isSome
  | [] => rfl
  | p :: ps => by
    have ih := anyT k ps
    unfold lkT at ih ⊢
    rw [List.map_cons, List.any_cons, List.find?_cons, ih]
    dsimp only
    rw [sameT_tupI]
    cases decide (p.1 = k) with
    | true => rfl
    | false => rfl
theorem dcT_put {ps : List (List Int × D)} {k : List Int} {x : D} {Q : List (D × D) → Prop} (hl : ps.length < 100000) (q : Q (dcT (putL ps k x))) : dPut (dcT ps) (tupI k) x Q := by
  show (match keysN (k.map PyData.int) with
      | some ks => (ps.map fun p => ((tupI p.1, p.2) : D × D)).length < sizeLine ∧ Q ((.none, .none) :: putT (ps.map fun p => ((tupI p.1, p.2) : D × D)) ks x)
      | none => False)
  rw [keysN_ints]
  refine ⟨by rw [List.length_map]; show _ < 16777216; omega, ?_⟩
  have e : putT (ps.map fun p => ((tupI p.1, p.2) : D × D)) (k.map Sum.inl) x = (putL ps k x).map fun p => ((tupI p.1, p.2) : D × D) := by
    unfold putT putL
    rw [anyT]
    split
    · rw [List.map_map, List.map_map]
      refine List.map_congr_left fun p hp => ?_
      simp only [Function.comp]
      rw [sameT_tupI]
      by_cases h : p.1 = k
      · rw [decide_eq_true h, if_pos rfl, if_pos h]
      · rw [decide_eq_false h, if_neg (by simp), if_neg h]
    · rw [List.map_append, List.map_cons, ← tupI_keys]
      rfl
  rw [e]
  exact q
theorem lkT_iff {α : Type} {k : List Int} : ∀ {ps : List (List Int × α)}, (lkT ps k).isSome = true ↔ k ∈ ps.map (·.1)
  | [] => by simp [lkT]
  | p :: ps => by
    have ih := lkT_iff (k := k) (ps := ps)
    unfold lkT at ih ⊢
    rw [List.find?_cons, List.map_cons, List.mem_cons]
    by_cases h : p.1 = k
    · rw [decide_eq_true h]
      simp [h]
    · rw [decide_eq_false h]
      rw [ih]
      exact ⟨.inr, fun e => e.elim (fun e => (h e.symm).elim) id⟩
theorem lkT_map {α β : Type} (f : α → β) (k : List Int) : ∀ ps : List (List Int × α), lkT (ps.map fun p => (p.1, f p.2)) k = (lkT ps k).map f
  | [] => rfl
  | p :: ps => by
    have ih := lkT_map f k ps
    unfold lkT at ih ⊢
    rw [List.map_cons, List.find?_cons, List.find?_cons]
    dsimp only
    cases decide (p.1 = k) with
    | true => rfl
    | false => exact ih
theorem putL_map {α β : Type} (f : α → β) (k : List Int) (x : α) (ps : List (List Int × α)) : putL (ps.map fun p => (p.1, f p.2)) k (f x) = (putL ps k x).map fun p => (p.1, f p.2) := by
  unfold putL
  rw [lkT_map, Option.isSome_map]
  split
  · rw [List.map_map, List.map_map]
    refine List.map_congr_left fun p hp => ?_
    simp only [Function.comp]
    split <;> rfl
  · rw [List.map_append]
    rfl
theorem tupsOf_keys : ∀ ps : List (List Int × D), tupsOf ((ps.map fun p => ((tupI p.1, p.2) : D × D)).map (·.1)) = some (ps.map (·.1))
  | [] => rfl
  | p :: ps => by
    have ih := tupsOf_keys ps
    rw [List.map_cons, List.map_cons]
    show (match tupOf (tupI p.1), tupsOf ((ps.map fun p => ((tupI p.1, p.2) : D × D)).map (·.1)) with | some n, some ns => some (n :: ns) | _, _ => none) = _
    rw [ih, show tupOf (tupI p.1) = intsOf (p.1.map PyData.int) from rfl, intsOf_map']
    rfl
end Lk23
namespace Lk23
open PySem Hs
local macro_rules
  | `(tactic| sizeOf_list_dec) => `(tactic| first
    | with_reducible refine st_seq ?_ | with_reducible refine st_asg ?_ | with_reducible refine st_cons ?_ | with_reducible refine st_nil ?_ | with_reducible refine st_C ?_ | with_reducible refine st_op ?_
    | with_reducible refine st_var_d ?_ | with_reducible refine st_var_l ?_ | with_reducible refine st_var_ll ?_ | with_reducible refine st_var_dc ?_
    | with_reducible refine st_look_d ?_ | with_reducible refine st_look_top ?_ | with_reducible refine st_look_top_d ?_ | with_reducible refine st_look_own ?_ | with_reducible refine st_look_top_dc ?_ | with_reducible refine st_look_own_dc ?_ | with_reducible refine st_put_d ?_ | with_reducible refine st_put_own ?_ | with_reducible refine st_put_top_l ?_ | with_reducible refine st_put_top_ll ?_ | with_reducible refine st_put_top_dc ?_
    | ((with_reducible refine st_callF ?_ ?_); eq_refl) | with_reducible refine st_call ?_ | with_reducible refine st_putK_nil ?_ | with_reducible refine st_putK_t ?_ | with_reducible refine st_putK_f ?_ | with_reducible refine st_putK_td ?_ | with_reducible refine st_putK_to ?_ | with_reducible refine st_bind_nil ?_ | with_reducible refine st_bind_f ?_ | with_reducible refine st_bind_tt ?_ | with_reducible refine st_bind_td ?_ | with_reducible refine st_bind_to ?_
    | with_reducible refine st_frz_d ?_ | with_reducible refine st_frz_own ?_ | with_reducible refine st_frz_top ?_ | with_reducible refine st_frz_own_ll ?_ | with_reducible refine st_frz_own_dc ?_ | with_reducible refine st_frz_top_ll ?_ | with_reducible refine st_frz_top_dc ?_ | with_reducible refine st_frzAll_nil ?_ | with_reducible refine st_frzAll_cons ?_
    | with_reducible refine st_if ?_ | with_reducible refine st_B ?_ | with_reducible refine st_and ?_ | with_reducible refine st_or ?_ | with_reducible refine st_not ?_ | with_reducible refine st_yes ?_ | with_reducible refine st_isB ?_ | with_reducible refine st_t ?_ | with_reducible refine st_f ?_ | ((with_reducible refine st_iteT ?_ ?_); decide) | ((with_reducible refine st_iteF ?_ ?_); decide)
    | with_reducible refine st_nt ?_ | with_reducible refine st_nf ?_
    | with_reducible refine st_ret ?_ | with_reducible refine st_next ?_ | with_reducible refine st_retN ?_ | with_reducible refine st_drop ?_ | with_reducible refine st_break ?_ | with_reducible refine st_raise ?_
    | with_reducible refine st_out_d ?_ | with_reducible refine st_out_own ?_ | with_reducible refine st_out_top ?_
    | with_reducible refine st_tup ?_ | with_reducible refine st_lst ?_ | with_reducible refine st_un ?_ | with_reducible refine st_blt ?_ | with_reducible refine st_lookAll_nil ?_ | with_reducible refine st_lookAll_cons ?_
    | with_reducible refine st_unp ?_ | with_reducible refine st_par ?_ | with_reducible refine st_setIx ?_ | with_reducible refine st_onL ?_ | with_reducible refine st_for ?_ | with_reducible refine st_wipe_nil ?_ | with_reducible refine st_wipe_cons ?_ | with_reducible refine st_andV ?_ | with_reducible refine st_orV ?_ | with_reducible refine st_notV ?_ | with_reducible refine st_ifE ?_ | with_reducible refine st_chain ?_
    | with_reducible refine st_sl ?_ | with_reducible refine st_noPart ?_ | with_reducible refine st_part ?_ | with_reducible refine st_lc ?_ | with_reducible refine st_lm ?_
    | with_reducible refine st_seqI ?_ | with_reducible refine st_range1 ?_ | with_reducible refine st_range2 ?_ | with_reducible refine st_enum ?_ | with_reducible refine st_zip ?_
    | with_reducible refine st_nm ?_ | with_reducible refine st_tp ?_ | with_reducible refine st_tps_nil ?_ | with_reducible refine st_tps_cons ?_
    | ((with_reducible refine st_mod_i ?_ ?_); (first | decide | omega)) | ((with_reducible refine st_fdiv_i ?_ ?_); decide) 
    | with_reducible refine st_add_i ?_ | with_reducible refine st_sub_i ?_ | with_reducible refine st_neg_i ?_ | with_reducible refine st_eq_i ?_ | with_reducible refine st_ne_i ?_ | with_reducible refine st_eq_str ?_ | with_reducible refine st_ne_str ?_ | with_reducible refine st_eq_b ?_ | with_reducible refine st_ne_b ?_ | with_reducible refine st_lt_i ?_ | with_reducible refine st_le_i ?_ | with_reducible refine st_gt_i ?_ | with_reducible refine st_ge_i ?_
    | with_reducible refine st_is_n ?_ | with_reducible refine st_isNot_n ?_ | with_reducible refine st_is_b ?_ | with_reducible refine st_isNot_b ?_ | ((with_reducible refine st_ix_l (x := ?_) ?_ ?_); rotate_left; eq_refl) | ((with_reducible refine st_ix_t (x := ?_) ?_ ?_); rotate_left; eq_refl) | with_reducible refine st_len_l ?_ | with_reducible refine st_len_t ?_ | with_reducible refine st_len_lit ?_
    | with_reducible refine st_abs ?_ | with_reducible refine st_max2 ?_ | with_reducible refine st_min2 ?_ | with_reducible refine st_int_i ?_ | with_reducible refine st_int_b ?_ | with_reducible refine st_tuple_l ?_ | with_reducible refine st_tuple_t ?_ | with_reducible refine st_list_l ?_ | with_reducible refine st_list_t ?_ | ((with_reducible refine st_isT ?_ ?_); eq_refl) | ((with_reducible refine st_isTT ?_ ?_); eq_refl) | ((with_reducible refine st_isTF ?_ ?_); eq_refl) | ((with_reducible refine st_isNT ?_ ?_); eq_refl) | ((with_reducible refine st_isNF ?_ ?_); eq_refl)
    | with_reducible refine st_rg1 ?_ | with_reducible refine st_rg2 ?_ | with_reducible refine st_enumL ?_ | with_reducible refine st_zipS ?_ | with_reducible refine st_rev_l ?_ | with_reducible refine st_rev_t ?_
    | with_reducible refine st_ne_ll ?_ | with_reducible refine st_ne_lit ?_ | with_reducible refine st_in_pt ?_ | with_reducible refine st_in_pl ?_
    | with_reducible refine st_sl_l ?_ | with_reducible refine st_sl_t ?_
    | ((with_reducible refine st_iteLen ?_ ?_); eq_refl) | ((with_reducible refine st_iteNLen ?_ ?_); eq_refl) | with_reducible refine st_iteBB ?_ | ((with_reducible refine st_iteND ?_ ?_); omega) | ((with_reducible refine st_iteNF ?_ ?_); omega)
    | ((with_reducible refine st_iteT (decide_eq_true ?_) ?_); omega) | ((with_reducible refine st_iteF (decide_eq_false ?_) ?_); omega))
local macro_rules
  | `(tactic| sizeOf_list_dec) => `(tactic| with_reducible refine stepTo ?_)
local macro_rules
  | `(tactic| array_get_dec) => `(tactic| repeat sizeOf_list_dec)
local macro_rules
  | `(tactic| sizeOf_list_dec) => `(tactic| first | with_reducible refine st_ix2_l ?_ | with_reducible refine st_ix2_t ?_ | with_reducible refine st_ix2_s ?_ | with_reducible refine st_ix2_lit ?_ | with_reducible refine st_inK_l ?_ | with_reducible refine st_inK_t ?_ | with_reducible refine st_ninK_l ?_ | with_reducible refine st_ninK_t ?_ | with_reducible refine st_setD ?_ | with_reducible refine st_onDc ?_ | with_reducible refine st_dget2 ?_ | with_reducible refine st_emT ?_ | with_reducible refine st_emD ?_ | with_reducible refine st_disp1 ?_ | with_reducible refine st_disp1k ?_ | with_reducible refine st_range3 ?_ | with_reducible refine st_bor ?_ | with_reducible refine st_borT ?_ | with_reducible refine st_bindT_nil ?_ | with_reducible refine st_bindT_d ?_ | with_reducible refine st_bindT_o ?_ | with_reducible refine st_bindT_t ?_ | with_reducible refine st_toPs_nil ?_ | with_reducible refine st_toPs_d ?_ | with_reducible refine st_toPs_l ?_ | with_reducible refine st_toPs_dc ?_ | with_reducible refine st_tupO ?_ | with_reducible refine st_var_tp ?_ | with_reducible refine st_frz_own_tp ?_ | with_reducible refine st_frz_top_tp ?_ | with_reducible refine st_lmP ?_ | ((with_reducible refine st_onP ?_ ?_); eq_refl) | with_reducible refine st_flat_b ?_ | with_reducible refine st_flat_i ?_)
local macro_rules
  | `(tactic| sizeOf_list_dec) => `(tactic| with_reducible refine is_whole_ok fun _ => ?_)
local macro_rules
  | `(tactic| sizeOf_list_dec) => `(tactic| first | with_reducible refine st_in_il ?_ | with_reducible refine st_in_it ?_ | with_reducible refine st_notIn_il ?_ | with_reducible refine st_notIn_it ?_ | with_reducible refine st_ne_ll ?_)
theorem st_eq_tt {ns ms : List Int} {k : R → Prop} (h : k (.d (.bool (decide (ns = ms))))) : cEq (.tuple (ns.map .int)) (.tuple (ms.map .int)) k := by
  refine st_eq (x := .tuple (ns.map .int)) (y := .tuple (ms.map .int)) shaped_intsT shaped_intsT ?_
  show k (.d (.bool (PyData.eqvAll (ns.map .int) (ms.map .int))))
  rw [eqv_ints]
  exact h
theorem st_sortD {ps : List (List Int × D)} {k : R → Prop} (h : ∀ mss : List (List Int), mss.Perm (ps.map (·.1)) → mss.Pairwise (fun a b => lexL b a = false) → k (.own (.l (mss.map tupI)))) : bSortD [.dict (dcT ps)] k := by
  show (match tupsOf ((ps.map fun p => ((tupI p.1, p.2) : D × D)).map (·.1)) with
    | some nss => ∀ mss : List (List Int), mss.Perm nss → mss.Pairwise (fun a b => lexL b a = false) → k (.own (.l (mss.map tupI)))
    | none => False)
  rw [tupsOf_keys]
  exact h
def apsS (ts : List (Int × Int)) (F : List (List Int)) (p : Int) : List (List Int) := F ++ (F.filter fun S => !S.any fun one => Tb ts one p).map fun S => S ++ [p]
theorem aps_len {ts : List (Int × Int)} : ∀ (l : List Int) (F : List (List Int)), (l.foldl (apsS ts) F).length ≤ F.length * 2 ^ l.length
  | [], F => by simp
  | p :: l, F => by
    rw [List.foldl_cons]
    refine Nat.le_trans (aps_len l _) ?_
    have h1 : (apsS ts F p).length ≤ F.length * 2 := by
      unfold apsS
      rw [List.length_append, List.length_map]
      have := List.length_filter_le (fun S => !S.any fun one => Tb ts one p) F
      omega
    rw [List.length_cons, Nat.pow_succ, Nat.mul_comm (2 ^ l.length) 2, ← Nat.mul_assoc]
    exact Nat.mul_le_mul_right _ h1
theorem cell_ok {ns : List Int} {k : Nat} {X : XF} {Q : R → S → Prop} (h : ∀ z fin, Q (.d (.int z)) fin) : m__law_acell [.d (litD ns), .d (.int k)] X Q := by
  unfold m__law_acell b__law_acell
  refine st_sem rfl ?_
  array_get_dec
  refine st_ite (fun c => ?_) (fun c => ?_)
  · have c := of_decide_eq_true c
    have hk : k < ns.length := by omega
    array_get_dec
    refine st_ix_lit (z := ns[k]) ?_ ?_
    · exact L2.atI_nat (by simp [hk])
    · array_get_dec
      exact h _ _
  · array_get_dec
    exact h _ _
theorem digit_ok {z m : Int} (hm : 0 < m) (hs : m.natAbs < 2 ^ 8999) {X : XF} {Q : R → S → Prop} (h : Q (.d (.int (z % m))) [.l [.int (z / m)], .d (.int m)]) : m__law_adigit [.l [.int z], .d (.int m)] X Q := by
  unfold m__law_adigit b__law_adigit
  refine st_sem rfl ?_
  have ok : okD m := okD_of 8999 hm hs
  array_get_dec
  refine st_fdiv_i ok ?_
  array_get_dec
  refine ⟨by decide, by simp, ?_⟩
  array_get_dec
  exact h
theorem tape_ok {ns : List Int} {k : Nat} (hk : k < 64) {X : XF} {Q : R → S → Prop} (h : ∀ z fin, Q (.own (.l [.int z])) fin) : m__law_atape [.d (litD ns), .d (.int k)] X Q := by
  unfold m__law_atape b__law_atape
  refine st_sem rfl ?_
  array_get_dec
  refine cell_ok fun z fin => ?_
  array_get_dec
  refine st_ite (fun c => ?_) (fun c => ?_)
  · array_get_dec
    exact h _ _
  · array_get_dec
    refine st_mul_i (okM_of 62 17 (by omega) (by decide)) ?_
    array_get_dec
    refine st_mul_i (okM_of 17 7 (by decide) (by omega)) ?_
    array_get_dec
    refine ⟨by decide, ?_⟩
    refine loop_for (fun xs s => ∃ number last : Nat, xs.length ≤ 9 ∧ (∀ x ∈ xs, ∃ t : Nat, t < 9 ∧ x = .int t) ∧ number < 2305843009213693951 ^ (10 - xs.length) ∧ last < 2305843009213693951 ∧
      s = [.d (litD ns), .d (.int k), .d (.int z), .d (.int 2305843009213693951), .d (.int number), .d (.int last), .no]) ?_ ?_ _ _ ?_
    · rintro s ⟨number, last, -, -, -, -, rfl⟩
      array_get_dec
      exact h _ _
    · rintro x xs s kk ⟨number, last, hl, hx, hn, hla, rfl⟩ hk2
      obtain ⟨t, ht, rfl⟩ := hx x List.mem_cons_self
      have hb : number < 2 ^ 620 := Nat.lt_trans (Nat.lt_of_lt_of_le hn (Nat.pow_le_pow_right (by decide) (Nat.sub_le 10 _))) (by decide)
      array_get_dec
      refine st_mul_i (okM_of 620 61 (by omega) (by decide)) ?_
      array_get_dec
      refine st_mul_i (okM_of 62 62 (by omega) (by omega)) ?_
      array_get_dec
      refine st_mul_i (okM_of 16 7 (by decide) (by omega)) ?_
      array_get_dec
      refine hk2 _ ⟨number * 2305843009213693951 + last, (last * last + 40692 * k + t) % 2305843009213693951, ?_, fun x hx' => hx x (List.mem_cons_of_mem _ hx'), ?_, Nat.mod_lt _ (by decide), ?_⟩
      · rw [List.length_cons] at hl; omega
      · rw [List.length_cons] at hn hl
        rw [show 10 - xs.length = (10 - (xs.length + 1)) + 1 by omega, Nat.pow_succ]
        generalize 2305843009213693951 ^ (10 - (xs.length + 1)) = B at hn
        omega
      · show [_, _, _, _, _, _, _] = _
        simp
    · exact ⟨0, ((z % 2305843009213693951 * 48271 + 69621 * k + 11) % 2305843009213693951).toNat, by simp [rangeD_len], fun x hx => (by
        unfold rangeD at hx
        obtain ⟨t, ht, rfl⟩ := List.mem_map.mp hx
        exact ⟨t, by simpa using ht, by simp⟩), by simp [rangeD_len], by omega, by
          show [_, _, _, _, _, _, _] = _
          rw [Int.toNat_of_nonneg (by omega)]
          rfl⟩
theorem aweb_ok {z most : Int} (h0 : 0 ≤ most) (h9 : most ≤ 10) {X : XF} {Q : R → S → Prop} (h : ∀ (n : Int) ts z', n ≤ most → Good n ts → Q (.d (webD n ts)) [.l [.int z'], .d (.int most)]) :
    m__law_aweb [.l [.int z], .d (.int most)] X Q := by
  unfold m__law_aweb b__law_aweb
  refine st_sem rfl ?_
  array_get_dec
  refine digit_ok (by omega) (Nat.lt_of_lt_of_le (show (most + 1).natAbs < 2 ^ 8 by omega) (Nat.pow_le_pow_right (by decide) (by decide))) ?_
  have n0 : 0 ≤ z % (most + 1) := Int.emod_nonneg _ (by omega)
  have n1 : z % (most + 1) < most + 1 := Int.emod_lt_of_pos _ (by omega)
  generalize z % (most + 1) = n at n0 n1
  generalize z / (most + 1) = z1
  array_get_dec
  refine digit_ok (by decide) (by decide) ?_
  generalize z1 % 5 = o
  generalize z1 / 5 = z2
  array_get_dec
  refine ⟨by unfold lim62; omega, ?_⟩
  array_get_dec
  refine loop_range1 (hi := n) (fun i s => ∃ (ts : List (Int × Int)) (z : Int), s = [.l [.int z], .d (.int most), .d (.int n), .d (.int (1 + o)), .l (ts.map pairD), .no, .no] ∧ (∀ p ∈ ts, 0 ≤ p.1 ∧ p.1 < p.2 ∧ p.2 < n ∧ p.1 < i) ∧ ts.Pairwise (fun p q => ltPr p q = true) ∧ (ts.length : Int) ≤ 10 * i) ?_ ?_ ?_
  · rintro s ⟨ts, z, rfl, hp, hs, hl⟩
    array_get_dec
    exact h n ts z (by omega) ⟨by omega, by omega, fun p hm => ⟨(hp p hm).1, (hp p hm).2.1, (hp p hm).2.2.1⟩, hs, by omega⟩
  · rintro i s k hi hin ⟨ts, z, rfl, hp, hs, hl⟩ hk
    array_get_dec
    refine ⟨by unfold lim62; omega, by unfold lim62; omega, ?_⟩
    array_get_dec
    refine loop_range (lo := i + 1) (hi := n) (fun j s => ∃ (ts : List (Int × Int)) (z : Int), s = [.l [.int z], .d (.int most), .d (.int n), .d (.int (1 + o)), .l (ts.map pairD), .d (.int i), .no] ∧ (∀ p ∈ ts, 0 ≤ p.1 ∧ p.1 < p.2 ∧ p.2 < n ∧ (p.1 < i ∨ p.1 = i ∧ p.2 < j)) ∧ ts.Pairwise (fun p q => ltPr p q = true) ∧ (ts.length : Int) ≤ 10 * i + j) ?_ ?_ ?_
    · rintro s ⟨ts, z, rfl, hp, hs, hl⟩
      refine hk _ ⟨ts, z, rfl, fun p hm => ?_, hs, by omega⟩
      obtain ⟨p1, p2, p3, p4⟩ := hp p hm
      exact ⟨p1, p2, p3, by omega⟩
    · rintro j s k2 hj hjn ⟨ts, z, rfl, hp, hs, hl⟩ hk2
      have yes : ∀ z', k2 [.l [.int z'], .d (.int most), .d (.int n), .d (.int (1 + o)), .l ((ts ++ [(i, j)]).map pairD), .d (.int i), .no] := fun z' => by
        refine hk2 _ ⟨ts ++ [(i, j)], z', rfl, fun p hm => ?_, ?_, by rw [List.length_append]; simp; omega⟩
        · rcases List.mem_append.mp hm with hm | hm
          · obtain ⟨p1, p2, p3, p4⟩ := hp p hm
            exact ⟨p1, p2, p3, by omega⟩
          · obtain rfl : p = (i, j) := by simpa using hm
            exact ⟨by omega, by show i < j; omega, hjn, .inr ⟨rfl, by show j < j + 1; omega⟩⟩
        · refine List.pairwise_append.mpr ⟨hs, by simp, fun p hm q hq => ?_⟩
          obtain rfl : q = (i, j) := by simpa using hq
          obtain ⟨p1, p2, p3, p4⟩ := hp p hm
          unfold ltPr
          simp only [Bool.or_eq_true, decide_eq_true_eq, Bool.and_eq_true, beq_iff_eq]
          omega
      have no : ∀ z', k2 [.l [.int z'], .d (.int most), .d (.int n), .d (.int (1 + o)), .l (ts.map pairD), .d (.int i), .no] := fun z' => by
        refine hk2 _ ⟨ts, z', rfl, fun p hm => ?_, hs, by omega⟩
        obtain ⟨p1, p2, p3, p4⟩ := hp p hm
        exact ⟨p1, p2, p3, by omega⟩
      array_get_dec
      refine digit_ok (by decide) (by decide) ?_
      array_get_dec
      refine st_ite (fun q => ?_) (fun q => ?_)
      · array_get_dec
        refine st_append (by rw [List.length_map]; show _ < 16777216; omega) ?_
        array_get_dec
        have := yes (z / 6)
        rw [List.map_append] at this
        exact this
      · array_get_dec
        exact no _
    · refine ⟨ts, z, rfl, fun p hm => ?_, hs, by omega⟩
      obtain ⟨p1, p2, p3, p4⟩ := hp p hm
      exact ⟨p1, p2, p3, .inl p4⟩
  · exact ⟨[], _, rfl, fun p hm => (nomatch hm), .nil, by simp⟩
theorem least_of {P : Nat → Prop} : ∀ n, P n → ∃ k, P k ∧ ∀ j, P j → k ≤ j := fun n => by
  induction n using Nat.strongRecOn with
  | ind n ih =>
    intro h
    by_cases q : ∃ m, m < n ∧ P m
    · obtain ⟨m, hm, pm⟩ := q
      exact ih m hm pm
    · exact ⟨n, h, fun j hj => Nat.le_of_not_lt fun hlt => q ⟨j, hlt, hj⟩⟩
def Hued (ts : List (Int × Int)) (S : List Int) (k : Nat) (c : Int → Nat) : Prop := (∀ z ∈ S, c z < k) ∧ ∀ a ∈ S, ∀ b ∈ S, a ≠ b → Tb ts a b = true → c a ≠ c b
theorem hued_any (ts : List (Int × Int)) (S : List Int) : ∃ c, Hued ts S S.length c := ⟨fun z => S.idxOf z, fun z hz => List.idxOf_lt_length_of_mem hz, fun a ha b hb hab _ e => hab (by
  have e1 := List.getElem_idxOf (List.idxOf_lt_length_of_mem ha)
  have e2 := List.getElem_idxOf (List.idxOf_lt_length_of_mem hb)
  rw [← e1, ← e2]
  congr 1)⟩
noncomputable def chi (ts : List (Int × Int)) (S : List Int) : Nat := Classical.epsilon fun k => (∃ c, Hued ts S k c) ∧ ∀ j, (∃ c, Hued ts S j c) → k ≤ j
theorem chi_ok (ts : List (Int × Int)) (S : List Int) : (∃ c, Hued ts S (chi ts S) c) ∧ ∀ j, (∃ c, Hued ts S j c) → chi ts S ≤ j := Classical.epsilon_spec (p := fun k => (∃ c, Hued ts S k c) ∧ ∀ j, (∃ c, Hued ts S j c) → k ≤ j) (least_of _ (hued_any ts S))
theorem chi_le {ts : List (Int × Int)} {S : List Int} {k : Nat} {c : Int → Nat} (h : Hued ts S k c) : chi ts S ≤ k := (chi_ok ts S).2 k ⟨c, h⟩
theorem chi_len (ts : List (Int × Int)) (S : List Int) : chi ts S ≤ S.length := (chi_ok ts S).2 _ (hued_any ts S)
theorem chi_nil {ts : List (Int × Int)} : chi ts [] = 0 := Nat.le_zero.mp (chi_len ts [])
def ApS (ts : List (Int × Int)) (P : List Int) : Prop := P.Pairwise fun a b => Tb ts a b = false
def fpG (ts : List (Int × Int)) : List (List Int) → List Int → List (List Int)
  | acc, [] => acc
  | acc, p :: r => fpG ts (acc ++ (acc.filter fun P => !(P.any fun o => Tb ts o p)).map (· ++ [p])) r
def fp (ts : List (Int × Int)) (S : List Int) : List (List Int) := fpG ts [S.take 1] (S.drop 1)
theorem fpG_iff {ts : List (Int × Int)} {P : List Int} : ∀ {r : List Int} {acc : List (List Int)}, (∀ P0 ∈ acc, ApS ts P0) → (P ∈ fpG ts acc r ↔ ∃ P0 ∈ acc, ∃ T, T.Sublist r ∧ P = P0 ++ T ∧ ApS ts (P0 ++ T))
  | [], acc, ha => by
    constructor
    · intro h
      exact ⟨P, h, [], .slnil, by rw [List.append_nil], by rw [List.append_nil]; exact ha P h⟩
    · rintro ⟨P0, h0, T, hT, rfl, _⟩
      rw [List.sublist_nil] at hT
      rw [hT, List.append_nil]
      exact h0
  | p :: r, acc, ha => by
    have ext : ∀ P0, P0 ∈ (acc.filter fun P => !(P.any fun o => Tb ts o p)).map (· ++ [p]) ↔ ∃ P1 ∈ acc, ApS ts (P1 ++ [p]) ∧ P0 = P1 ++ [p] := fun P0 => by
      rw [List.mem_map]
      constructor
      · rintro ⟨P1, h1, rfl⟩
        obtain ⟨h1, h2⟩ := List.mem_filter.mp h1
        refine ⟨P1, h1, List.pairwise_append.mpr ⟨ha P1 h1, List.pairwise_singleton _ _, fun a h b hb => ?_⟩, rfl⟩
        rw [List.mem_singleton.mp hb]
        have : (P1.any fun o => Tb ts o p) = false := by simpa using h2
        simpa using List.any_eq_false.mp this a h
      · rintro ⟨P1, h1, h2, rfl⟩
        refine ⟨P1, List.mem_filter.mpr ⟨h1, ?_⟩, rfl⟩
        have : (P1.any fun o => Tb ts o p) = false := List.any_eq_false.mpr fun a h => by
          rw [(List.pairwise_append.mp h2).2.2 a h p (by simp)]
          decide
        rw [this]
        rfl
    show P ∈ fpG ts (acc ++ (acc.filter fun P => !(P.any fun o => Tb ts o p)).map (· ++ [p])) r ↔ _
    rw [fpG_iff (r := r) fun P0 h0 => by
      rcases List.mem_append.mp h0 with h0 | h0
      · exact ha P0 h0
      · obtain ⟨P1, h1, h2, rfl⟩ := (ext P0).mp h0
        exact h2]
    constructor
    · rintro ⟨P0, h0, T, hT, rfl, hA⟩
      rcases List.mem_append.mp h0 with h0 | h0
      · exact ⟨P0, h0, T, .cons _ hT, rfl, hA⟩
      · obtain ⟨P1, h1, h2, rfl⟩ := (ext P0).mp h0
        rw [List.append_assoc] at hA ⊢
        exact ⟨P1, h1, p :: T, .cons_cons _ hT, rfl, hA⟩
    · rintro ⟨P0, h0, T, hT, rfl, hA⟩
      cases hT with
      | cons _ hT => exact ⟨P0, List.mem_append_left _ h0, T, hT, rfl, hA⟩
      | cons_cons _ hT =>
        rename_i T
        rw [show P0 ++ p :: T = (P0 ++ [p]) ++ T by simp] at hA ⊢
        exact ⟨P0 ++ [p], List.mem_append_right _ ((ext _).mpr ⟨P0, h0, (List.pairwise_append.mp hA).1, rfl⟩), T, hT, rfl, hA⟩
/-- the apart parts that have the first place -/
theorem fp_iff {ts : List (Int × Int)} {x : Int} {r P : List Int} : P ∈ fp ts (x :: r) ↔ ∃ T, T.Sublist r ∧ P = x :: T ∧ ApS ts P := by
  unfold fp
  rw [show (x :: r).take 1 = [x] from rfl, show (x :: r).drop 1 = r from rfl, fpG_iff fun P0 h0 => by rw [List.mem_singleton.mp h0]; exact List.pairwise_singleton _ _]
  constructor
  · rintro ⟨P0, h0, T, hT, rfl, hA⟩
    rw [List.mem_singleton.mp h0] at hA ⊢
    exact ⟨T, hT, rfl, hA⟩
  · rintro ⟨T, hT, rfl, hA⟩
    exact ⟨[x], by simp, T, hT, rfl, hA⟩
def wo (S P : List Int) : List Int := S.filter fun z => !decide (z ∈ P)
theorem wo_mem {S P : List Int} {z : Int} : z ∈ wo S P ↔ z ∈ S ∧ z ∉ P := by
  unfold wo
  rw [List.mem_filter]
  simp
theorem apt_pair {ts : List (Int × Int)} {P : List Int} (h : ApS ts P) {a b : Int} (ha : a ∈ P) (hb : b ∈ P) (hab : a ≠ b) : Tb ts a b = false := by
  induction P with
  | nil => cases ha
  | cons x P ih =>
    obtain ⟨h1, h2⟩ := List.pairwise_cons.mp h
    rcases List.mem_cons.mp ha with rfl | ha'
    · rcases List.mem_cons.mp hb with rfl | hb'
      · exact (hab rfl).elim
      · exact h1 b hb'
    · rcases List.mem_cons.mp hb with rfl | hb'
      · rw [Tb_symm]; exact h1 a ha'
      · exact ih h2 ha' hb'
theorem chi_part {ts : List (Int × Int)} {S P : List Int} (h : ApS ts P) : chi ts S ≤ 1 + chi ts (wo S P) := by
  obtain ⟨⟨c, h1, h2⟩, _⟩ := chi_ok ts (wo S P)
  refine chi_le (c := fun z => if z ∈ P then chi ts (wo S P) else c z) ⟨fun z hz => ?_, fun a ha b hb hab ht => ?_⟩
  · by_cases hp : z ∈ P
    · simp only [if_pos hp]; omega
    · simp only [if_neg hp]
      have := h1 z (wo_mem.mpr ⟨hz, hp⟩)
      omega
  · by_cases pa : a ∈ P
    · by_cases pb : b ∈ P
      · rw [apt_pair h pa pb hab] at ht; cases ht
      · simp only [if_pos pa, if_neg pb]
        have := h1 b (wo_mem.mpr ⟨hb, pb⟩)
        omega
    · have la := h1 a (wo_mem.mpr ⟨ha, pa⟩)
      by_cases pb : b ∈ P
      · simp only [if_neg pa, if_pos pb]
        omega
      · simp only [if_neg pa, if_neg pb]
        exact h2 a (wo_mem.mpr ⟨ha, pa⟩) b (wo_mem.mpr ⟨hb, pb⟩) hab ht
theorem chi_best {ts : List (Int × Int)} {x : Int} {r : List Int} (nd : (x :: r).Pairwise (· < ·)) : ∃ P ∈ fp ts (x :: r), 1 + chi ts (wo (x :: r) P) = chi ts (x :: r) := by
  obtain ⟨⟨c, h1, h2⟩, _⟩ := chi_ok ts (x :: r)
  generalize hk : chi ts (x :: r) = k at *
  have hx := h1 x List.mem_cons_self
  have hin : (x :: r.filter fun z => decide (c z = c x)) ∈ fp ts (x :: r) := by
    have sub : (x :: r.filter fun z => decide (c z = c x)).Sublist (x :: r) := .cons_cons _ List.filter_sublist
    refine fp_iff.mpr ⟨_, List.filter_sublist, rfl, List.Pairwise.imp_of_mem (fun {a b} ha hb lt => ?_) (nd.sublist sub)⟩
    have ca : ∀ z ∈ (x :: r.filter fun z => decide (c z = c x)), c z = c x := fun z hz => by
      rcases List.mem_cons.mp hz with rfl | hz
      · rfl
      · exact of_decide_eq_true (List.mem_filter.mp hz).2
    cases hT : Tb ts a b with
    | false => rfl
    | true => exact (h2 a (sub.subset ha) b (sub.subset hb) (by omega) hT ((ca a ha).trans (ca b hb).symm)).elim
  refine ⟨_, hin, ?_⟩
  generalize hP : (x :: r.filter fun z => decide (c z = c x)) = P at *
  have hA : ApS ts P := (fp_iff.mp hin).choose_spec.2.2
  have ge := chi_part (S := x :: r) hA
  have inP : ∀ z ∈ x :: r, c z = c x → z ∈ P := fun z hz e => by
    rw [← hP]
    rcases List.mem_cons.mp hz with rfl | hz
    · exact List.mem_cons_self
    · exact List.mem_cons_of_mem _ (List.mem_filter.mpr ⟨hz, decide_eq_true e⟩)
  have le : chi ts (wo (x :: r) P) ≤ k - 1 := chi_le (c := fun z => if c z = k - 1 then c x else c z) ⟨fun z hz => by
    obtain ⟨hz, hn⟩ := wo_mem.mp hz
    have ne : c z ≠ c x := fun e => hn (inP z hz e)
    have := h1 z hz
    show (if c z = k - 1 then c x else c z) < k - 1
    split <;> omega, fun a ha b hb hab ht => by
    obtain ⟨ha, na⟩ := wo_mem.mp ha
    obtain ⟨hb, nb⟩ := wo_mem.mp hb
    have ea : c a ≠ c x := fun e => na (inP a ha e)
    have eb : c b ≠ c x := fun e => nb (inP b hb e)
    have := h2 a ha b hb hab ht
    show (if c a = k - 1 then c x else c a) ≠ (if c b = k - 1 then c x else c b)
    split <;> split <;> omega⟩
  omega
def sb : Nat → List (List Int)
  | 0 => [[]]
  | k + 1 => sb k ++ (sb k).map (· ++ [(k : Int)])
theorem sb_len : ∀ k, (sb k).length = 2 ^ k
  | 0 => rfl
  | k + 1 => by
    unfold sb
    rw [List.length_append, List.length_map, sb_len k, Nat.pow_succ]
    omega
theorem sb_iff {S : List Int} : ∀ {n : Nat}, S ∈ sb n ↔ Set' n S
  | 0 => by
    unfold sb
    rw [List.mem_singleton]
    constructor
    · rintro rfl; exact ⟨.nil, fun z hz => by cases hz⟩
    · intro h
      cases S with
      | nil => rfl
      | cons z S => have := h.lt z List.mem_cons_self; omega
  | n + 1 => by
    unfold sb
    rw [List.mem_append, List.mem_map]
    constructor
    · rintro (h | ⟨T, hT, rfl⟩)
      · have h := sb_iff.mp h
        exact ⟨h.up, fun z hz => by have := h.lt z hz; omega⟩
      · have h := sb_iff.mp hT
        refine ⟨List.pairwise_append.mpr ⟨h.up, List.pairwise_singleton _ _, fun a ha b hb => ?_⟩, fun z hz => ?_⟩
        · rw [List.mem_singleton.mp hb]; have := h.lt a ha; omega
        · rcases List.mem_append.mp hz with hz | hz
          · have := h.lt z hz; omega
          · rw [List.mem_singleton.mp hz]; omega
    · intro h
      by_cases hn : (n : Int) ∈ S
      · right
        obtain ⟨A, B, e⟩ := List.append_of_mem hn
        subst e
        have up := List.pairwise_append.mp h.up
        cases B with
        | cons b B =>
          have l1 := (List.pairwise_cons.mp up.2.1).1 b List.mem_cons_self
          have := h.lt b (by simp)
          omega
        | nil => exact ⟨A, sb_iff.mpr ⟨up.1, fun z hz => by
            have := up.2.2 z hz n (by simp)
            have := h.lt z (List.mem_append_left _ hz)
            omega⟩, rfl⟩
      · left
        exact sb_iff.mpr ⟨h.up, fun z hz => by
          have := h.lt z hz
          have : z ≠ n := fun e => hn (e ▸ hz)
          omega⟩
theorem sb_order : ∀ n, (sb n).Pairwise fun A B => ¬ ∀ z ∈ B, z ∈ A
  | 0 => List.pairwise_singleton _ _
  | n + 1 => by
    have lt : ∀ A ∈ sb n, (n : Int) ∉ A := fun A hA h => by have := (sb_iff.mp hA).lt _ h; omega
    have h1 : ((sb n).map (· ++ [(n : Int)])).Pairwise fun A B => ¬ ∀ z ∈ B, z ∈ A := List.pairwise_map.mpr (List.Pairwise.imp_of_mem (fun {A B} hA hB h q => h fun z hz => by
      rcases List.mem_append.mp (q z (List.mem_append_left _ hz)) with h2 | h2
      · exact h2
      · rw [List.mem_singleton.mp h2] at hz
        exact (lt B hB hz).elim) (sb_order n))
    refine List.pairwise_append.mpr ⟨sb_order n, h1, fun A hA B hB q => ?_⟩
    obtain ⟨T, hT, rfl⟩ := List.mem_map.mp hB
    exact lt A hA (q n (by simp))
theorem sb_before {n : Nat} {pre suf : List (List Int)} {S T : List Int} (e : sb n = pre ++ S :: suf) (hT : T ∈ sb n) (sub : ∀ z ∈ T, z ∈ S) (ne : T ≠ S) : T ∈ pre := by
  have o := sb_order n
  rw [e] at o hT
  rcases List.mem_append.mp hT with h | h
  · exact h
  · rcases List.mem_cons.mp h with h | h
    · exact (ne h).elim
    · exact ((List.pairwise_cons.mp (List.pairwise_append.mp o).2.1).1 T h sub).elim
theorem st_minI {α : Type} {l : List α} {f : α → Int} {k : R → Prop} (h0 : l ≠ []) (h : ∀ m, (∃ a ∈ l, m = f a) → (∀ a ∈ l, m ≤ f a) → k (.d (.int m))) : bMinL [.list (l.map fun a => .int (f a))] k := by
  unfold bMinL
  dsimp only
  rw [show (l.map fun a => PyData.int (f a)) = (l.map f).map .int by rw [List.map_map]; rfl, intsOf_map']
  refine ⟨by rw [List.length_map]; exact List.length_pos_iff.mpr h0, fun m hm hl => h m ?_ fun a ha => hl _ (List.mem_map.mpr ⟨a, ha, rfl⟩)⟩
  obtain ⟨a, ha, e⟩ := List.mem_map.mp hm
  exact ⟨a, ha, e.symm⟩
abbrev dcI (kvs : List (List Int × Int)) : List (D × D) := dcT (kvs.map fun p => (p.1, PyData.int p.2))
theorem dcI_in {kvs : List (List Int × Int)} {k : List Int} {P : R → Prop} (q : P (.d (.bool (lkT kvs k).isSome))) : cInK (tupI k) (.dict (dcI kvs)) P := dcT_in (by rw [lkT_map PyData.int, Option.isSome_map]; exact q)
theorem dcI_ix {kvs : List (List Int × Int)} {k : List Int} {x : Int} {P : R → Prop} (e : lkT kvs k = some x) (q : P (.d (.int x))) : ixD2 (.dict (dcI kvs)) (tupI k) P := dcT_ix (by rw [lkT_map PyData.int, e]; rfl) q
theorem dcI_put {kvs : List (List Int × Int)} {k : List Int} {x : Int} {Q : List (D × D) → Prop} (hl : kvs.length < 100000) (q : Q (dcI (putL kvs k x))) : dPut (dcI kvs) (tupI k) (.int x) Q := by
  refine dcT_put (by rw [List.length_map]; exact hl) ?_
  rw [putL_map PyData.int]
  exact q
noncomputable def flo (ts : List (Int × Int)) (L : List (List Int)) : List (List Int × Int) := L.map fun S => (S, (chi ts S : Int))
theorem flo_lk {ts : List (Int × Int)} {S : List Int} : ∀ {L : List (List Int)}, S ∈ L → lkT (flo ts L) S = some (chi ts S : Int)
  | T :: L, h => by
    unfold flo lkT
    rw [List.map_cons, List.find?_cons]
    dsimp only
    by_cases e : T = S
    · subst e
      rw [decide_eq_true rfl]
      rfl
    · rw [decide_eq_false e]
      rcases List.mem_cons.mp h with h | h
      · exact (e h.symm).elim
      · exact flo_lk h
theorem flo_no {ts : List (Int × Int)} {S : List Int} {L : List (List Int)} (h : S ∉ L) : lkT (flo ts L) S = none := by
  cases e : lkT (flo ts L) S with
  | none => rfl
  | some v =>
    have q : (lkT (flo ts L) S).isSome = true := by rw [e]; rfl
    have := lkT_iff.mp q
    unfold flo at this
    rw [List.map_map] at this
    obtain ⟨T, hT, e2⟩ := List.mem_map.mp this
    exact (h (e2 ▸ hT)).elim
theorem flo_put {ts : List (Int × Int)} {S : List Int} {L : List (List Int)} (h : S ∉ L) : putL (flo ts L) S (chi ts S : Int) = flo ts (L ++ [S]) := by
  unfold putL
  rw [flo_no h]
  unfold flo
  rw [List.map_append]
  rfl
theorem sb_nodup (n : Nat) : (sb n).Nodup := (sb_order n).imp fun {A B} h e => h (by subst e; exact fun z hz => hz)
section
variable {n : Int} {ts : List (Int × Int)} {S P : List Int} {X : XF} {Q : R → Hs.S → Prop}
theorem all_sets_ok (h0 : 0 ≤ n) (h10 : n ≤ 10) (h : ∀ fin, Q (.own (.l ((sb n.toNat).map tupI))) fin) : m_all_sets [.d (.int n)] X Q := by
  unfold m_all_sets b_all_sets
  refine st_sem rfl ?_
  array_get_dec
  refine ⟨by unfold lim62; omega, ?_⟩
  array_get_dec
  refine loop_range1 (fun i s => ∃ w : SV, w = .l ((sb i.toNat).map tupI) ∧ s = [.d (.int n), w, .no, .no]) (fun s hI => ?_) (fun i s k i0 ilt hI hk => ?_) ⟨_, rfl, rfl⟩
  · obtain ⟨w, rfl, rfl⟩ := hI
    rw [show max 0 n = n by omega]
    array_get_dec
    exact h _
  · obtain ⟨w, rfl, rfl⟩ := hI
    have sl := sb_len i.toNat
    have s2 : 2 ^ i.toNat ≤ 2 ^ 10 := Nat.pow_le_pow_right (by decide) (by omega)
    have s3 : (2 : Nat) ^ 10 = 1024 := by decide
    array_get_dec
    refine ⟨by rw [List.length_map]; show _ ≤ 16777216; omega, ?_⟩
    array_get_dec
    refine comp_list tupI (fun T => tupI (T ++ [i])) _ (fun T hT kT hkT => ?_) ?_
    · have few := (sb_iff.mp hT).few (by omega)
      array_get_dec
      rw [show tupI T = PyData.tuple (T.map .int) from rfl]
      refine st_add_t (by rw [List.length_map]; show _ + 1 ≤ 16777216; omega) ?_
      array_get_dec
      rw [show tupI (T ++ [i]) = PyData.tuple (T.map .int ++ [.int i]) by unfold tupI; rw [List.map_append]; rfl] at hkT
      exact hkT
    · array_get_dec
      refine st_add_l (by rw [List.length_map, List.length_map]; show _ ≤ 16777216; omega) ?_
      array_get_dec
      refine hk _ ⟨_, ?_, rfl⟩
      rw [show (i + 1).toNat = i.toNat + 1 by omega]
      show _ = SV.l ((sb i.toNat ++ (sb i.toNat).map (· ++ [((i.toNat : Nat) : Int)])).map tupI)
      rw [List.map_append, List.map_map, show ((i.toNat : Nat) : Int) = i by omega]
      rfl
theorem without_ok (hl : S.length ≤ 100) (h : ∀ fin, Q (.d (.tuple ((wo S P).map .int))) fin) : m_without [.d (.tuple (S.map .int)), .d (.tuple (P.map .int))] X Q := by
  unfold m_without b_without
  refine st_sem rfl ?_
  array_get_dec
  refine ⟨by rw [List.length_map]; show _ ≤ 16777216; omega, ?_⟩
  array_get_dec
  refine comp_filter PyData.int PyData.int (fun z => !decide (z ∈ P)) _ (fun z hz kT kF hT hF => ?_) ?_
  · array_get_dec
    refine st_ite (fun c => ?_) (fun c => ?_)
    · array_get_dec
      exact hT c
    · exact hF c
  · array_get_dec
    exact h _
theorem fp_fold : ∀ (r : List Int) (acc : List (List Int)), fpG ts acc r = r.foldl (apsS ts) acc
  | [], _ => rfl
  | p :: r, acc => by
    show fpG ts _ r = _
    rw [fp_fold r, List.foldl_cons]
    rfl
theorem first_parts_ok (hl : S.length ≤ 10) (h : ∀ fin, Q (.own (.l ((fp ts S).map tupI))) fin) : m_first_parts [.d (webD n ts), .d (.tuple (S.map .int))] X Q := by
  unfold m_first_parts b_first_parts
  refine st_sem rfl ?_
  array_get_dec
  rw [show (1 : Int) = ((1 : Nat) : Int) from rfl, cut_to, cut_from]
  refine loop_list PyData.int (fun l s => ∃ done, ∃ w : SV, S.drop 1 = done ++ l ∧ w = .l ((done.foldl (apsS ts) [S.take 1]).map tupI) ∧ s = [.d (webD n ts), .d (.tuple (S.map .int)), w, .no, .no, .no, .no]) (fun s hI => ?_) (fun p l s k hI hk => ?_) _ _ ⟨[], _, rfl, rfl, rfl⟩
  · obtain ⟨done, w, e, rfl, rfl⟩ := hI
    rw [List.append_nil] at e
    array_get_dec
    rw [← e, ← fp_fold]
    exact h _
  · obtain ⟨done, w, e, rfl, rfl⟩ := hI
    have dl : done.length + 1 + l.length = (S.drop 1).length := by rw [e, List.length_append, List.length_cons]; omega
    rw [List.length_drop] at dl
    have fl := aps_len (ts := ts) done [S.take 1]
    have f2 : 2 ^ done.length ≤ 2 ^ 10 := Nat.pow_le_pow_right (by decide) (by omega)
    have f3 : (2 : Nat) ^ 10 = 1024 := by decide
    rw [List.length_singleton, Nat.one_mul] at fl
    have el : ∀ T ∈ done.foldl (apsS ts) [S.take 1], T.length ≤ 20 := fun T hT => by
      rw [← fp_fold] at hT
      have gen : ∀ (r : List Int) (acc : List (List Int)) (m : Nat), (∀ T ∈ acc, T.length ≤ m) → ∀ T ∈ fpG ts acc r, T.length ≤ m + r.length := by
        intro r
        induction r with
        | nil => intro acc m ha T hT; exact ha T hT
        | cons q r ih =>
          intro acc m ha T hT
          have := ih _ (m + 1) (fun U hU => by
            rcases List.mem_append.mp hU with hU | hU
            · have := ha U hU; omega
            · obtain ⟨V, hV, rfl⟩ := List.mem_map.mp hU
              have := ha V (List.mem_filter.mp hV).1
              rw [List.length_append]
              simp
              omega) T hT
          rw [List.length_cons]
          omega
      have := gen done [S.take 1] 1 (fun U hU => by rw [List.mem_singleton.mp hU, List.length_take]; omega) T hT
      omega
    have ef : (done ++ [p]).foldl (apsS ts) [S.take 1] = apsS ts (done.foldl (apsS ts) [S.take 1]) p := by rw [List.foldl_append]; rfl
    generalize done.foldl (apsS ts) [S.take 1] = F at fl el ef
    array_get_dec
    refine ⟨by rw [List.length_map]; show _ ≤ 16777216; omega, ?_⟩
    array_get_dec
    refine comp_filter tupI (fun T => tupI (T ++ [p])) (fun T => !T.any fun o => Tb ts o p) _ (fun T hT kT kF hT1 hF1 => ?_) ?_
    · have tl := el T hT
      array_get_dec
      rw [show tupI T = PyData.tuple (T.map .int) from rfl]
      array_get_dec
      refine ⟨by rw [List.length_map]; show _ ≤ 16777216; omega, ?_⟩
      array_get_dec
      refine comp_list PyData.int (fun o => .bool (Tb ts o p)) _ (fun o ho kT2 hkT2 => ?_) ?_
      · array_get_dec
        refine tied_in_ok fun fin => ?_
        array_get_dec
        exact hkT2
      · array_get_dec
        refine st_any_map ?_
        array_get_dec
        refine st_ite (fun c => ?_) (fun c => ?_)
        · array_get_dec
          refine st_add_t (by rw [List.length_map]; show _ + 1 ≤ 16777216; omega) ?_
          array_get_dec
          have q := hT1 c
          rw [show tupI (T ++ [p]) = PyData.tuple (T.map .int ++ [.int p]) by unfold tupI; rw [List.map_append]; rfl] at q
          exact q
        · exact hF1 c
    · array_get_dec
      have fl2 := List.length_filter_le (fun T : List Int => !T.any fun o => Tb ts o p) F
      refine st_add_l (by rw [List.length_map, List.length_map]; show _ ≤ 16777216; omega) ?_
      array_get_dec
      refine hk _ ⟨done ++ [p], _, by rw [e, List.append_assoc]; rfl, ?_, rfl⟩
      rw [ef]
      unfold apsS
      rw [List.map_append, List.map_map]
      rfl
end
theorem st_ne_tt {ns ms : List Int} {k : R → Prop} (h : k (.d (.bool (!decide (ns = ms))))) : cNe (.tuple (ns.map .int)) (.tuple (ms.map .int)) k := by
  refine st_ne (x := .tuple (ns.map .int)) (y := .tuple (ms.map .int)) shaped_intsT shaped_intsT ?_
  show k (.d (.bool (!PyData.eqvAll (ns.map .int) (ms.map .int))))
  rw [eqv_ints]
  exact h
theorem range_set {n : Int} (h0 : 0 ≤ n) : Set' n (rangeI n.toNat) := by rw [range_F]; exact set_rangeF (by decide) (by omega)
theorem chi_min {ts : List (Int × Int)} {x : Int} {r : List Int} (up : (x :: r).Pairwise (· < ·)) {m : Int} (h1 : ∃ P ∈ fp ts (x :: r), m = (chi ts (wo (x :: r) P) : Int)) (h2 : ∀ P ∈ fp ts (x :: r), m ≤ (chi ts (wo (x :: r) P) : Int)) : 1 + m = (chi ts (x :: r) : Int) := by
  obtain ⟨P, hP, rfl⟩ := h1
  obtain ⟨P2, hP2, e2⟩ := chi_best (ts := ts) up
  have := h2 P2 hP2
  have := chi_part (S := x :: r) (fp_iff.mp hP).choose_spec.2.2
  omega
theorem fp_sub {ts : List (Int × Int)} {S P : List Int} (hS : S ≠ []) (hP : P ∈ fp ts S) : P.Sublist S ∧ ApS ts P ∧ (∃ x, x ∈ P) := by
  cases S with
  | nil => exact (hS rfl).elim
  | cons x r =>
    obtain ⟨T, hT, rfl, hA⟩ := fp_iff.mp hP
    exact ⟨.cons_cons _ hT, hA, x, List.mem_cons_self⟩
theorem wo_set {n : Int} {S P : List Int} (hs : Set' n S) : Set' n (wo S P) := ⟨List.Pairwise.filter _ hs.up, fun z hz => hs.lt z (wo_mem.mp hz).1⟩
theorem wo_less {S P : List Int} {x : Int} (hx : x ∈ P) (sub : P.Sublist S) : (wo S P).length < S.length := by
  have h1 : (wo S P).Sublist S := List.filter_sublist
  refine Nat.lt_of_le_of_ne h1.length_le fun e => ?_
  have := h1.eq_of_length e
  have : x ∈ wo S P := by rw [this]; exact sub.subset hx
  exact (wo_mem.mp this).2 hx
/-- hues that are told: below k, tied places unlike, each used -/
structure HuesOk (ts : List (Int × Int)) (dn : Int → Prop) (hs : List Int) (k : Nat) : Prop where
  lt : ∀ p, dn p → 0 ≤ atZ hs p ∧ atZ hs p < (k : Int)
  ne : ∀ a b, dn a → dn b → a ≠ b → Tb ts a b = true → atZ hs a ≠ atZ hs b
  all : ∀ h : Nat, h < k → ∃ p, dn p ∧ atZ hs p = (h : Int)
def setAll (h : Int) : List Int → List Int → List Int
  | hs, [] => hs
  | hs, p :: l => setAll h (hs.set p.toNat h) l
theorem setAll_snoc {h : Int} {p : Int} : ∀ {l hs : List Int}, setAll h hs (l ++ [p]) = (setAll h hs l).set p.toNat h
  | [], _ => rfl
  | _ :: l, _ => setAll_snoc (l := l)
theorem setAll_len {h : Int} : ∀ {l hs : List Int}, (setAll h hs l).length = hs.length
  | [], _ => rfl
  | _ :: l, hs => by
    show (setAll h _ l).length = _
    rw [setAll_len, List.length_set]
theorem setAll_at {h : Int} {q : Int} (q0 : 0 ≤ q) : ∀ {l hs : List Int}, (∀ p ∈ l, 0 ≤ p ∧ p < hs.length) → atZ (setAll h hs l) q = if q ∈ l then h else atZ hs q
  | [], hs, _ => by rw [if_neg (by simp)]; rfl
  | p :: l, hs, hl => by
    have hp := hl p List.mem_cons_self
    show atZ (setAll h (hs.set p.toNat h) l) q = _
    rw [setAll_at q0 fun z hz => by rw [List.length_set]; exact hl z (List.mem_cons_of_mem _ hz)]
    by_cases hq : q ∈ l
    · rw [if_pos hq, if_pos (List.mem_cons_of_mem _ hq)]
    · rw [if_neg hq]
      unfold atZ
      by_cases e : q = p
      · subst e
        rw [if_pos List.mem_cons_self, List.getD_eq_getElem?_getD, List.getElem?_set_self (by omega)]
        rfl
      · rw [if_neg (by simp [e, hq]), List.getD_eq_getElem?_getD, List.getD_eq_getElem?_getD, List.getElem?_set_ne (by omega)]
theorem HuesOk.step {n : Int} {ts : List (Int × Int)} {left P hs : List Int} {c : Nat} {x : Int} (sl : Set' n left) (sub : P.Sublist left) (ap : ApS ts P) (hx : x ∈ P) (hl : hs.length = n.toNat) (ok : HuesOk ts (fun p => 0 ≤ p ∧ p < n ∧ p ∉ left) hs c) : HuesOk ts (fun p => 0 ≤ p ∧ p < n ∧ p ∉ wo left P) (setAll (c : Int) hs P) (c + 1) := by
  have hat : ∀ q, 0 ≤ q → atZ (setAll (c : Int) hs P) q = if q ∈ P then (c : Int) else atZ hs q := fun q q0 => setAll_at q0 fun p hp => by
    have := sl.lt p (sub.subset hp)
    omega
  have out : ∀ p, p ∉ wo left P → p ∉ P → p ∉ left := fun p h1 h2 h3 => h1 (wo_mem.mpr ⟨h3, h2⟩)
  refine ⟨fun p hp => ?_, fun a b ha hb hab ht => ?_, fun h hh => ?_⟩
  · rw [hat p hp.1]
    by_cases h : p ∈ P
    · rw [if_pos h]; omega
    · rw [if_neg h]
      have := ok.lt p ⟨hp.1, hp.2.1, out p hp.2.2 h⟩
      omega
  · rw [hat a ha.1, hat b hb.1]
    by_cases pa : a ∈ P
    · by_cases pb : b ∈ P
      · rw [apt_pair ap pa pb hab] at ht; cases ht
      · rw [if_pos pa, if_neg pb]
        have := ok.lt b ⟨hb.1, hb.2.1, out b hb.2.2 pb⟩
        omega
    · rw [if_neg pa]
      have la := ok.lt a ⟨ha.1, ha.2.1, out a ha.2.2 pa⟩
      by_cases pb : b ∈ P
      · rw [if_pos pb]; omega
      · rw [if_neg pb]
        exact ok.ne a b ⟨ha.1, ha.2.1, out a ha.2.2 pa⟩ ⟨hb.1, hb.2.1, out b hb.2.2 pb⟩ hab ht
  · by_cases e : h = c
    · subst e
      have lx := sl.lt x (sub.subset hx)
      refine ⟨x, ⟨lx.1, lx.2, fun q => (wo_mem.mp q).2 hx⟩, ?_⟩
      rw [hat x lx.1, if_pos hx]
    · obtain ⟨p, hp, e2⟩ := ok.all h (by omega)
      refine ⟨p, ⟨hp.1, hp.2.1, fun q => hp.2.2 (wo_mem.mp q).1⟩, ?_⟩
      rw [hat p hp.1, if_neg fun q => hp.2.2 (sub.subset q)]
      exact e2
section
variable {n : Int} {ts : List (Int × Int)} {S P : List Int} {X : XF} {Q : R → Hs.S → Prop}
theorem floors_in_ok (g : Good n ts) (h : ∀ fin, Q (.own (.dc (dcI (flo ts (sb n.toNat))))) fin) : m_floors_in [.d (webD n ts)] X Q := by
  have n0 := g.n0
  have n10 := g.n10
  have en : ((n.toNat : Nat) : Int) = n := by omega
  unfold m_floors_in b_floors_in
  refine st_sem rfl ?_
  array_get_dec
  refine all_sets_ok n0 n10 fun fin => ?_
  array_get_dec
  refine loop_list tupI (fun l s => ∃ pre, ∃ w : SV, sb n.toNat = pre ++ l ∧ w = .dc (dcI (flo ts pre)) ∧ s = [.d (webD n ts), w, .no, .no]) (fun s hI => ?_) (fun T l s k hI hk => ?_) _ _ ⟨[], _, rfl, rfl, rfl⟩
  · obtain ⟨pre, w, e, rfl, rfl⟩ := hI
    rw [List.append_nil] at e
    array_get_dec
    rw [e] at h
    exact h _
  · obtain ⟨pre, w, e, rfl, rfl⟩ := hI
    have hT : T ∈ sb n.toNat := by rw [e]; simp
    have sT : Set' n T := by have := sb_iff.mp hT; rw [en] at this; exact this
    have few := sT.few n10
    have pl : (flo ts pre).length < 100000 := by
      have a := sb_len n.toNat
      rw [e, List.length_append, List.length_cons] at a
      have s2 : 2 ^ n.toNat ≤ 2 ^ 10 := Nat.pow_le_pow_right (by decide) (by omega)
      have s3 : (2 : Nat) ^ 10 = 1024 := by decide
      unfold flo
      rw [List.length_map]
      omega
    have np : T ∉ pre := fun hp => by
      have := sb_nodup n.toNat
      rw [e] at this
      exact (List.nodup_append.mp this).2.2 T hp T (by simp) rfl
    have fin2 : ∃ pre', ∃ w : SV, sb n.toNat = pre' ++ l ∧ w = .dc (dcI (flo ts pre')) ∧ [SV.d (webD n ts), .dc (dcI (flo ts (pre ++ [T]))), .no, .no] = [SV.d (webD n ts), w, .no, .no] := ⟨pre ++ [T], _, by rw [e, List.append_assoc]; rfl, rfl, rfl⟩
    array_get_dec
    rw [show tupI T = PyData.tuple (T.map .int) from rfl]
    refine st_eq_tt (ms := []) ?_
    array_get_dec
    refine st_ite (fun c => ?_) (fun c => ?_)
    · have c : T = [] := of_decide_eq_true c
      subst c
      array_get_dec
      refine dcI_put (kvs := flo ts pre) (k := []) (x := 0) pl ?_
      rw [show (0 : Int) = (chi ts [] : Int) by rw [chi_nil]; rfl, flo_put np]
      array_get_dec
      exact hk _ fin2
    · have c : T ≠ [] := of_decide_eq_false c
      have fl : (fp ts T).length ≤ 1024 := by
        have q : (fp ts T).length ≤ 2 ^ (T.drop 1).length := by
          unfold fp
          rw [fp_fold]
          have := aps_len (ts := ts) (T.drop 1) [T.take 1]
          rw [List.length_singleton, Nat.one_mul] at this
          exact this
        have s2 : 2 ^ (T.drop 1).length ≤ 2 ^ 10 := Nat.pow_le_pow_right (by decide) (by rw [List.length_drop]; omega)
        have s3 : (2 : Nat) ^ 10 = 1024 := by decide
        omega
      array_get_dec
      refine first_parts_ok few fun fin => ?_
      array_get_dec
      refine ⟨by rw [List.length_map]; show _ ≤ 16777216; omega, ?_⟩
      array_get_dec
      refine comp_list tupI (fun P => .int (chi ts (wo T P) : Int)) _ (fun P hP kT hkT => ?_) ?_
      · obtain ⟨sub, ap, x, hx⟩ := fp_sub c hP
        have hw : wo T P ∈ pre := sb_before e (by rw [sb_iff, en]; exact wo_set sT) (fun z hz => (wo_mem.mp hz).1) fun e2 => by
          have := wo_less hx sub
          rw [e2] at this
          omega
        array_get_dec
        rw [show tupI P = PyData.tuple (P.map .int) from rfl]
        array_get_dec
        refine without_ok (by omega) fun fin => ?_
        array_get_dec
        refine dcI_ix (kvs := flo ts pre) (k := wo T P) (flo_lk hw) ?_
        array_get_dec
        exact hkT
      · array_get_dec
        obtain ⟨x, r, rfl⟩ := List.exists_cons_of_ne_nil c
        refine st_minI (fun e2 => ?_) fun m h1 h2 => ?_
        · obtain ⟨P, hP, _⟩ := chi_best (ts := ts) sT.up
          rw [e2] at hP
          cases hP
        · array_get_dec
          rw [chi_min sT.up h1 h2]
          refine dcI_put (kvs := flo ts pre) (k := x :: r) (x := (chi ts (x :: r) : Int)) pl ?_
          rw [flo_put np]
          array_get_dec
          exact hk _ fin2
theorem hues_by_ok (g : Good n ts) (h : ∀ hs fin, hs.length = n.toNat → HuesOk ts (fun p => 0 ≤ p ∧ p < n) hs (chi ts (rangeI n.toNat)) → Q (.d (.tuple (hs.map .int))) fin) : m_hues_by [.d (webD n ts), .d (.dict (dcI (flo ts (sb n.toNat))))] X Q := by
  have n0 := g.n0
  have n10 := g.n10
  have en : ((n.toNat : Nat) : Int) = n := by omega
  have lk : ∀ {S}, Set' n S → lkT (flo ts (sb n.toNat)) S = some (chi ts S : Int) := fun {S} hs => flo_lk (by rw [sb_iff, en]; exact hs)
  unfold m_hues_by b_hues_by
  refine st_sem rfl ?_
  array_get_dec
  refine ⟨⟨by omega, by omega⟩, ?_⟩
  array_get_dec
  rw [rangeD_map]
  refine ⟨by rw [List.length_map, rangeI_len]; show _ ≤ 16777216; omega, ?_⟩
  array_get_dec
  refine comp_list PyData.int (fun _ => .int 0) _ (fun z hz kT hkT => ?_) ?_
  · array_get_dec
    exact hkT
  array_get_dec
  refine ⟨⟨by omega, by omega⟩, ?_⟩
  array_get_dec
  rw [rangeD_map]
  refine loop_while (fun m s => ∃ (left hs : List Int) (c : Nat), Set' n left ∧ left.length = m ∧ hs.length = n.toNat ∧ c + chi ts left = chi ts (rangeI n.toNat) ∧ HuesOk ts (fun p => 0 ≤ p ∧ p < n ∧ p ∉ left) hs c ∧ s = [.d (webD n ts), .d (.dict (dcI (flo ts (sb n.toNat)))), .l (hs.map .int), .no, .d (.tuple (left.map .int)), .d (.int c), .no, .no]) ?_ n.toNat ⟨rangeI n.toNat, (rangeI n.toNat).map fun _ => 0, 0, range_set n0, rangeI_len, by rw [List.length_map, rangeI_len], by omega, ⟨fun p hp => (hp.2.2 (rangeI_mem.mpr (by omega))).elim, fun a b ha _ _ _ => (ha.2.2 (rangeI_mem.mpr (by omega))).elim, fun h hh => by omega⟩, by rw [List.map_map]; rfl⟩
  rintro m s k ⟨left, hs, c, sl, rfl, hl, hc, ok, rfl⟩ hk
  have few := sl.few n10
  array_get_dec
  refine st_ne_tt (ms := []) ?_
  array_get_dec
  refine st_ite (fun q => ?_) (fun q => ?_)
  · have q : left ≠ [] := by simpa using q
    have fl : (fp ts left).length ≤ 1024 := by
      have q : (fp ts left).length ≤ 2 ^ (left.drop 1).length := by
        unfold fp
        rw [fp_fold]
        have := aps_len (ts := ts) (left.drop 1) [left.take 1]
        rw [List.length_singleton, Nat.one_mul] at this
        exact this
      have s2 : 2 ^ (left.drop 1).length ≤ 2 ^ 10 := Nat.pow_le_pow_right (by decide) (by rw [List.length_drop]; omega)
      have s3 : (2 : Nat) ^ 10 = 1024 := by decide
      omega
    array_get_dec
    refine first_parts_ok few fun fin => ?_
    array_get_dec
    refine ⟨by rw [List.length_map]; show _ ≤ 16777216; omega, ?_⟩
    array_get_dec
    refine comp_filter tupI tupI (fun P => decide ((chi ts (wo left P) : Int) = (chi ts left : Int) - 1)) _ (fun P hP kT kF hT hF => ?_) ?_
    · array_get_dec
      rw [show tupI P = PyData.tuple (P.map .int) from rfl]
      array_get_dec
      refine without_ok (by omega) fun fin => ?_
      array_get_dec
      refine dcI_ix (kvs := flo ts (sb n.toNat)) (k := wo left P) (lk (wo_set sl)) ?_
      array_get_dec
      refine dcI_ix (kvs := flo ts (sb n.toNat)) (k := left) (lk sl) ?_
      array_get_dec
      refine st_ite (fun c => ?_) (fun c => ?_)
      · array_get_dec
        exact hT c
      · exact hF c
    · have hne : ∃ P rest, (fp ts left).filter (fun P => decide ((chi ts (wo left P) : Int) = (chi ts left : Int) - 1)) = P :: rest := by
        obtain ⟨x, r, rfl⟩ := List.exists_cons_of_ne_nil q
        obtain ⟨P, hP, e⟩ := chi_best (ts := ts) sl.up
        refine List.exists_cons_of_ne_nil fun e2 => ?_
        have := List.filter_eq_nil_iff.mp e2 P hP
        exact this (decide_eq_true (by omega))
      obtain ⟨P, rest, hf⟩ := hne
      have hP : P ∈ (fp ts left).filter (fun P => decide ((chi ts (wo left P) : Int) = (chi ts left : Int) - 1)) := by rw [hf]; exact List.mem_cons_self
      obtain ⟨hP, hv⟩ := List.mem_filter.mp hP
      have hv := of_decide_eq_true hv
      obtain ⟨sub, ap, x, hx⟩ := fp_sub q hP
      have ok2 := ok.step sl sub ap hx hl
      rw [hf, show (P :: rest).map tupI = PyData.tuple (P.map .int) :: rest.map tupI from rfl]
      have hix : L2.atI (PyData.tuple (P.map .int) :: rest.map tupI) 0 = some (.tuple (P.map .int)) := L2.atI_nat rfl
      array_get_dec
      refine st_ix_l hix ?_
      array_get_dec
      refine loop_list PyData.int (fun l s => ∃ dn, P = dn ++ l ∧ s = [.d (webD n ts), .d (.dict (dcI (flo ts (sb n.toNat)))), .l ((setAll (c : Int) hs dn).map .int), .no, .d (.tuple (left.map .int)), .d (.int c), .l (PyData.tuple (P.map .int) :: rest.map tupI), .no]) (fun s hI => ?_) (fun p l s k3 hI hk3 => ?_) P _ ⟨[], rfl, rfl⟩
      · obtain ⟨dn, e, rfl⟩ := hI
        rw [List.append_nil] at e
        subst e
        array_get_dec
        refine st_ix_l hix ?_
        array_get_dec
        refine without_ok (by omega) fun fin => ?_
        array_get_dec
        exact hk _ _ (wo_less hx sub) ⟨wo left P, setAll (c : Int) hs P, c + 1, wo_set sl, rfl, by rw [setAll_len]; exact hl, by omega, ok2, rfl⟩
      · obtain ⟨dn, e, rfl⟩ := hI
        have lp := sl.lt p (sub.subset (by rw [e]; simp))
        array_get_dec
        refine ⟨lp.1, by rw [List.length_map, setAll_len]; omega, ?_⟩
        array_get_dec
        refine hk3 _ ⟨dn ++ [p], by rw [e, List.append_assoc]; rfl, ?_⟩
        rw [setAll_snoc, List.map_set]
        rfl
  · have q : left = [] := by simpa using q
    subst q
    rw [chi_nil, Nat.add_zero] at hc
    subst hc
    array_get_dec
    exact h hs _ hl ⟨fun p hp => ok.lt p ⟨hp.1, hp.2, by simp⟩, fun a b ha hb => ok.ne a b ⟨ha.1, ha.2, by simp⟩ ⟨hb.1, hb.2, by simp⟩, fun h hh => by
      obtain ⟨p, hp, e⟩ := ok.all h hh
      exact ⟨p, ⟨hp.1, hp.2.1⟩, e⟩⟩
end
theorem fewest_in_ok {n : Int} {ts : List (Int × Int)} {X : XF} {Q : R → Hs.S → Prop} (g : Good n ts) (h : ∀ hs fin, hs.length = n.toNat → HuesOk ts (fun p => 0 ≤ p ∧ p < n) hs (chi ts (rangeI n.toNat)) → Q (.d (.tuple [.int (chi ts (rangeI n.toNat)), .tuple (hs.map .int), .dict (dcI (flo ts (sb n.toNat)))])) fin) : m_fewest_in [.d (webD n ts)] X Q := by
  have n0 := g.n0
  have n10 := g.n10
  have en : ((n.toNat : Nat) : Int) = n := by omega
  unfold m_fewest_in b_fewest_in
  refine st_sem rfl ?_
  array_get_dec
  refine floors_in_ok g fun fin => ?_
  array_get_dec
  refine ⟨⟨by omega, by omega⟩, ?_⟩
  array_get_dec
  rw [rangeD_map]
  refine dcI_ix (kvs := flo ts (sb n.toNat)) (k := rangeI n.toNat) (flo_lk (by rw [sb_iff, en]; exact range_set n0)) ?_
  array_get_dec
  refine hues_by_ok g fun hs fin hl ok => ?_
  array_get_dec
  exact h hs _ hl ok
theorem fewest_ok {n : Int} {ts : List (Int × Int)} {X : XF} {Q : R → Hs.S → Prop} (g : Good n ts) (h : ∀ hs fin, hs.length = n.toNat → HuesOk ts (fun p => 0 ≤ p ∧ p < n) hs (chi ts (rangeI n.toNat)) → Q (.d (.tuple [.int (chi ts (rangeI n.toNat)), .tuple (hs.map .int), .dict (dcI (flo ts (sb n.toNat)))])) fin) : m_fewest [.d (webD n ts)] X Q := by
  unfold m_fewest b_fewest
  refine st_sem rfl ?_
  array_get_dec
  refine need_web_ok g fun fin => ?_
  array_get_dec
  refine fewest_in_ok g fun hs fin hl ok => ?_
  array_get_dec
  exact h hs _ hl ok
theorem keysD_inj2 {a b : List L2.Key} (h : keysD a = keysD b) : a = b := by
  have h : (PyData.tuple (a.map keyD)) = .tuple (b.map keyD) := h
  injection h with h
  have := congrArg keysN h
  rw [keysN_map, keysN_map] at this
  exact Option.some.inj this
def hashT (ns : List Int) : Int := reduceHash (Builtin.Tuple.tupleHashOf (ns.map hashInt))
theorem hashT_eq (P : Program) (w : World) (ns : List Int) : (tupleKind (L2.mixKind P w)).hash (ns.map Sum.inl) = hashT ns := by
  show reduceHash (Builtin.Tuple.tupleHashOf ((ns.map Sum.inl).map _)) = _
  rw [List.map_map]
  rfl
def fam : List (List Int) := sb 4 ++ [[4], [1, 0], [0, 0]]
theorem fam_hash : ∀ a ∈ fam, ∀ b ∈ fam, hashT a = hashT b → a = b := by decide +kernel
/-- the keys are of the family, each once -/
def FamK {α : Type} (ps : List (List Int × α)) : Prop := (ps.map (·.1)).Nodup ∧ ∀ p ∈ ps, p.1 ∈ fam
theorem apart_fam {ps : List (List Int × D)} (h : FamK ps) : apartH (ps.map fun p => ((tupI p.1, p.2) : D × D)) := by
  intro P w ks e
  have ek : ks = ps.map fun p => p.1.map Sum.inl := by
    rw [List.map_map] at e
    clear h
    induction ps generalizing ks with
    | nil =>
      cases ks with
      | nil => rfl
      | cons _ _ => cases e
    | cons p ps ih =>
      cases ks with
      | nil => cases e
      | cons k ks =>
        rw [List.map_cons, List.map_cons] at e
        injection e with e1 e2
        rw [List.map_cons, ← ih ks e2]
        have e1 : tupI p.1 = keysD k := e1
        rw [tupI_keys] at e1
        rw [keysD_inj2 e1.symm]
  subst ek
  rw [List.map_map]
  have n := h.1
  rw [List.nodup_iff_pairwise_ne, List.pairwise_map] at n ⊢
  refine List.Pairwise.imp_of_mem (fun {a b} ha hb hab q => ?_) n
  simp only [Function.comp] at q
  rw [hashT_eq, hashT_eq] at q
  exact hab (fam_hash _ (h.2 a ha) _ (h.2 b hb) q)
theorem st_dictT_c {ps : List (List Int × D)} {k : R → Prop} (hp : FamK ps) (h : k (.own (.dc (dcT ps)))) : bDictT [.dict (dcT ps)] k := .inl ⟨_, rfl, apart_fam hp, h⟩
theorem inl_nodup : ∀ {l : List (List Int)}, l.Nodup → (l.map fun k => k.map (Sum.inl : Int → L2.Key)).Nodup := fun {l} h => by
  rw [List.nodup_iff_pairwise_ne, List.pairwise_map]
  exact List.Pairwise.imp (fun {a b} hab q => hab (map_inl_inj q)) (List.nodup_iff_pairwise_ne.mp h)
theorem st_dictT_p {α : Type} {l : List α} {f : α → List Int} {v : α → D} {k : R → Prop} (hn : (l.map f).Nodup) (h : k (.own (.dc (dcT (l.map fun a => (f a, v a)))))) : bDictT [.list (l.map fun a => .tuple [tupI (f a), v a])] k := by
  refine .inr ⟨l.map fun a => ((f a).map Sum.inl, v a), ?_, ?_, ?_⟩
  · rw [List.map_map]
    congr 2
    refine List.map_congr_left fun a _ => ?_
    show PyData.tuple [tupI (f a), v a] = .tuple [keysD ((f a).map Sum.inl), v a]
    rw [tupI_keys]
  · have := inl_nodup hn
    rw [List.map_map] at this ⊢
    exact this
  · have e : ((.none, .none) :: (l.map fun a => ((f a).map (Sum.inl : Int → L2.Key), v a)).map fun p => (keysD p.1, p.2)) = dcT (l.map fun a => (f a, v a)) := by
      unfold dcT
      rw [List.map_map, List.map_map]
      congr 1
      refine List.map_congr_left fun a _ => ?_
      show (keysD ((f a).map Sum.inl), v a) = (tupI (f a), v a)
      rw [tupI_keys]
    rw [e]
    exact h
section
variable {X : XF} {s s' : S} {a b : FE} {i : Nat} {Q : R → S → Prop} {ps : List (List Int × D)}
theorem st_dget3 [e : Get s i (.d (.dict (dcT ps)))] (h : a X s fun rj s1 => b X s1 fun rx s2 => frz rj s2 fun k s3 => frz rx s3 fun d s4 => s4.getD i .no = .d (.dict (dcT ps)) ∧ dGet (dcT ps) k fun o => Q (.d (o.getD d)) s4) : fDGet3 i a b X s Q := ⟨_, e.e, h⟩
def delL {α : Type} (ps : List (List Int × α)) (k : List Int) : List (List Int × α) := ps.filter fun p => !decide (p.1 = k)
def popK (i : Nat) (d : D) (s2 : S) (Q : R → S → Prop) : Prop := match d with
  | .tuple kd => match keysN kd with
    | some ks => onDc i s2 fun kvs => match kvs with
      | (.none, .none) :: r => ∃ d, (r.find? fun p => sameT p.1 ks).map (·.2) = some d ∧ Q (.d d) (s2.set i (.dc ((.none, .none) :: dropT r ks)))
      | _ => False
    | none => False
  | _ => False
theorem popK_eq : (fun (d : D) (s2 : S) => popK i d s2 Q) = fun (d : D) (s2 : S) => match [d] with
  | [.tuple kd] => match keysN kd with
    | some ks => onDc i s2 fun kvs => match kvs with
      | (.none, .none) :: r => ∃ d, (r.find? fun p => sameT p.1 ks).map (·.2) = some d ∧ Q (.d d) (s2.set i (.dc ((.none, .none) :: dropT r ks)))
      | _ => False
    | none => False
  | _ => False := by
  funext d s2
  cases d <;> rfl
theorem st_popD (h : onDc i s fun _ => a X s fun rj s1 => frz rj s1 fun d s2 => popK i d s2 Q) : fPopD i a X s Q := by
  have h : onDc i s fun _ => a X s fun rj s1 => frz rj s1 (fun d s2 => popK i d s2 Q) := h
  rw [popK_eq] at h
  exact h
theorem drop_map (k : List Int) : dropT (ps.map fun p => ((tupI p.1, p.2) : D × D)) (k.map Sum.inl) = (delL ps k).map fun p => (tupI p.1, p.2) := by
  unfold dropT delL
  rw [List.filter_map]
  congr 1
  refine List.filter_congr fun p _ => ?_
  show (!sameT (tupI p.1) (k.map Sum.inl)) = _
  rw [sameT_tupI]
theorem st_popK {k : List Int} {x : D} [e : Get s i (.dc (dcT ps))] [q : Put s i (.dc (dcT (delL ps k))) s'] (hx : lkT ps k = some x) (h : Q (.d x) s') : popK i (tupI k) s Q := by
  show (match keysN (k.map PyData.int) with
    | some ks => onDc i s fun kvs => match kvs with
      | (.none, .none) :: r => ∃ d, (r.find? fun p => sameT p.1 ks).map (·.2) = some d ∧ Q (.d d) (s.set i (.dc ((.none, .none) :: dropT r ks)))
      | _ => False
    | none => False)
  rw [keysN_ints]
  dsimp only
  unfold onDc
  rw [e.e]
  show ∃ d, ((ps.map fun p => ((tupI p.1, p.2) : D × D)).find? fun p => sameT p.1 (k.map Sum.inl)).map (·.2) = some d ∧ Q (.d d) (s.set i (.dc ((.none, .none) :: dropT (ps.map fun p => ((tupI p.1, p.2) : D × D)) (k.map Sum.inl))))
  refine ⟨x, by rw [findT]; exact hx, ?_⟩
  rw [drop_map]
  show Q (.d x) (s.set i (.dc (dcT (delL ps k))))
  rw [q.e]
  exact h
theorem szT_of (hs : ∀ p ∈ ps, p.1.length ≤ 16777216) : szT (ps.map fun p => ((tupI p.1, p.2) : D × D)) := fun p hp => by
  obtain ⟨q, hq, rfl⟩ := List.mem_map.mp hp
  exact ⟨q.1, rfl, hs q hq⟩
theorem st_forT {fg : FG} {wp : List Nat} {b : FS} {nx bk ct : S → Prop} {rt : R → S → Prop} {xx : XF} [e : Get s i (.d (.dict (dcT ps)))] [q : Put s i (.d (.dict (dcT ps))) s'] (hs : ∀ p ∈ ps, p.1.length ≤ 16777216)
    (h : wipeK s' wp fun s2 => fLoop fg wp b ⟨nx, rt, bk, ct, fun _ _ => False⟩ (ps.map fun p => tupI p.1) s2) : fForT i fg wp b ⟨nx, rt, bk, ct, xx⟩ s := by
  unfold fForT
  rw [e.e]
  show szT (ps.map fun p => ((tupI p.1, p.2) : D × D)) ∧ fLoop fg wp b _ ((ps.map fun p => ((tupI p.1, p.2) : D × D)).map (·.1)) (wipeS (s.set i (.d (.dict (dcT ps)))) wp)
  rw [q.e, List.map_map]
  exact ⟨szT_of hs, h⟩
theorem st_lcT {fg : FG} {wp : List Nat} {t : FT} {x : FE} [e : Get s i (.d (.dict (dcT ps)))] [q : Put s i (.d (.dict (dcT ps))) s'] (hs : ∀ p ∈ ps, p.1.length ≤ 16777216) (hl : ps.length ≤ 16777216)
    (h : wipeK s' wp fun s2 => fComp (fun _ _ => False) fg wp t x Q (ps.map fun p => tupI p.1) [] s2) : fLcT i fg wp t x X s Q := by
  unfold fLcT
  rw [e.e]
  show szT (ps.map fun p => ((tupI p.1, p.2) : D × D)) ∧ (ps.map fun p => ((tupI p.1, p.2) : D × D)).length ≤ 16777216 ∧ fComp (fun _ _ => False) fg wp t x Q ((ps.map fun p => ((tupI p.1, p.2) : D × D)).map (·.1)) [] (wipeS (s.set i (.d (.dict (dcT ps)))) wp)
  rw [q.e, List.map_map, List.length_map]
  exact ⟨szT_of hs, hl, h⟩
end
theorem st_neT {kvs : List (List Int × Int)} {k : R → Prop} (h : k (.d (.bool false))) : cNeT (.dict (dcI kvs)) (.dict (dcI kvs)) k := by
  refine .inr ⟨_, rfl, rfl, fun p hp => ?_, h⟩
  rw [List.map_map] at hp
  obtain ⟨q, _, rfl⟩ := List.mem_map.mp hp
  exact ⟨q.2, rfl⟩
end Lk23
namespace Lk23
open PySem Hs
local macro_rules
  | `(tactic| sizeOf_list_dec) => `(tactic| first
    | with_reducible refine st_seq ?_ | with_reducible refine st_asg ?_ | with_reducible refine st_cons ?_ | with_reducible refine st_nil ?_ | with_reducible refine st_C ?_ | with_reducible refine st_op ?_
    | with_reducible refine st_var_d ?_ | with_reducible refine st_var_l ?_ | with_reducible refine st_var_ll ?_ | with_reducible refine st_var_dc ?_
    | with_reducible refine st_look_d ?_ | with_reducible refine st_look_top ?_ | with_reducible refine st_look_top_d ?_ | with_reducible refine st_look_own ?_ | with_reducible refine st_look_top_dc ?_ | with_reducible refine st_look_own_dc ?_ | with_reducible refine st_put_d ?_ | with_reducible refine st_put_own ?_ | with_reducible refine st_put_top_l ?_ | with_reducible refine st_put_top_ll ?_ | with_reducible refine st_put_top_dc ?_
    | ((with_reducible refine st_callF ?_ ?_); eq_refl) | with_reducible refine st_call ?_ | with_reducible refine st_putK_nil ?_ | with_reducible refine st_putK_t ?_ | with_reducible refine st_putK_f ?_ | with_reducible refine st_putK_td ?_ | with_reducible refine st_putK_to ?_ | with_reducible refine st_bind_nil ?_ | with_reducible refine st_bind_f ?_ | with_reducible refine st_bind_tt ?_ | with_reducible refine st_bind_td ?_ | with_reducible refine st_bind_to ?_
    | with_reducible refine st_frz_d ?_ | with_reducible refine st_frz_own ?_ | with_reducible refine st_frz_top ?_ | with_reducible refine st_frz_own_ll ?_ | with_reducible refine st_frz_own_dc ?_ | with_reducible refine st_frz_top_ll ?_ | with_reducible refine st_frz_top_dc ?_ | with_reducible refine st_frzAll_nil ?_ | with_reducible refine st_frzAll_cons ?_
    | with_reducible refine st_if ?_ | with_reducible refine st_B ?_ | with_reducible refine st_and ?_ | with_reducible refine st_or ?_ | with_reducible refine st_not ?_ | with_reducible refine st_yes ?_ | with_reducible refine st_isB ?_ | with_reducible refine st_t ?_ | with_reducible refine st_f ?_ | ((with_reducible refine st_iteT ?_ ?_); decide) | ((with_reducible refine st_iteF ?_ ?_); decide)
    | with_reducible refine st_nt ?_ | with_reducible refine st_nf ?_
    | with_reducible refine st_ret ?_ | with_reducible refine st_next ?_ | with_reducible refine st_retN ?_ | with_reducible refine st_drop ?_ | with_reducible refine st_break ?_ | with_reducible refine st_raise ?_
    | with_reducible refine st_out_d ?_ | with_reducible refine st_out_own ?_ | with_reducible refine st_out_top ?_
    | with_reducible refine st_tup ?_ | with_reducible refine st_lst ?_ | with_reducible refine st_un ?_ | with_reducible refine st_blt ?_ | with_reducible refine st_lookAll_nil ?_ | with_reducible refine st_lookAll_cons ?_
    | with_reducible refine st_unp ?_ | with_reducible refine st_par ?_ | with_reducible refine st_setIx ?_ | with_reducible refine st_onL ?_ | with_reducible refine st_for ?_ | with_reducible refine st_wipe_nil ?_ | with_reducible refine st_wipe_cons ?_ | with_reducible refine st_andV ?_ | with_reducible refine st_orV ?_ | with_reducible refine st_notV ?_ | with_reducible refine st_ifE ?_ | with_reducible refine st_chain ?_
    | with_reducible refine st_sl ?_ | with_reducible refine st_noPart ?_ | with_reducible refine st_part ?_ | with_reducible refine st_lc ?_ | with_reducible refine st_lm ?_
    | with_reducible refine st_seqI ?_ | with_reducible refine st_range1 ?_ | with_reducible refine st_range2 ?_ | with_reducible refine st_enum ?_ | with_reducible refine st_zip ?_
    | with_reducible refine st_nm ?_ | with_reducible refine st_tp ?_ | with_reducible refine st_tps_nil ?_ | with_reducible refine st_tps_cons ?_
    | ((with_reducible refine st_mod_i ?_ ?_); (first | decide | omega)) | ((with_reducible refine st_fdiv_i ?_ ?_); decide) 
    | with_reducible refine st_add_i ?_ | with_reducible refine st_sub_i ?_ | with_reducible refine st_neg_i ?_ | with_reducible refine st_eq_i ?_ | with_reducible refine st_ne_i ?_ | with_reducible refine st_eq_str ?_ | with_reducible refine st_ne_str ?_ | with_reducible refine st_eq_b ?_ | with_reducible refine st_ne_b ?_ | with_reducible refine st_lt_i ?_ | with_reducible refine st_le_i ?_ | with_reducible refine st_gt_i ?_ | with_reducible refine st_ge_i ?_
    | with_reducible refine st_is_n ?_ | with_reducible refine st_isNot_n ?_ | with_reducible refine st_is_b ?_ | with_reducible refine st_isNot_b ?_ | ((with_reducible refine st_ix_l (x := ?_) ?_ ?_); rotate_left; eq_refl) | ((with_reducible refine st_ix_t (x := ?_) ?_ ?_); rotate_left; eq_refl) | with_reducible refine st_len_l ?_ | with_reducible refine st_len_t ?_ | with_reducible refine st_len_lit ?_
    | with_reducible refine st_abs ?_ | with_reducible refine st_max2 ?_ | with_reducible refine st_min2 ?_ | with_reducible refine st_int_i ?_ | with_reducible refine st_int_b ?_ | with_reducible refine st_tuple_l ?_ | with_reducible refine st_tuple_t ?_ | with_reducible refine st_list_l ?_ | with_reducible refine st_list_t ?_ | ((with_reducible refine st_isT ?_ ?_); eq_refl) | ((with_reducible refine st_isTT ?_ ?_); eq_refl) | ((with_reducible refine st_isTF ?_ ?_); eq_refl) | ((with_reducible refine st_isNT ?_ ?_); eq_refl) | ((with_reducible refine st_isNF ?_ ?_); eq_refl)
    | with_reducible refine st_rg1 ?_ | with_reducible refine st_rg2 ?_ | with_reducible refine st_enumL ?_ | with_reducible refine st_zipS ?_ | with_reducible refine st_rev_l ?_ | with_reducible refine st_rev_t ?_
    | with_reducible refine st_ne_ll ?_ | with_reducible refine st_ne_lit ?_ | with_reducible refine st_in_pt ?_ | with_reducible refine st_in_pl ?_
    | with_reducible refine st_sl_l ?_ | with_reducible refine st_sl_t ?_
    | ((with_reducible refine st_iteLen ?_ ?_); eq_refl) | ((with_reducible refine st_iteNLen ?_ ?_); eq_refl) | with_reducible refine st_iteBB ?_ | ((with_reducible refine st_iteND ?_ ?_); omega) | ((with_reducible refine st_iteNF ?_ ?_); omega)
    | ((with_reducible refine st_iteT (decide_eq_true ?_) ?_); omega) | ((with_reducible refine st_iteF (decide_eq_false ?_) ?_); omega))
local macro_rules
  | `(tactic| sizeOf_list_dec) => `(tactic| with_reducible refine stepTo ?_)
local macro_rules
  | `(tactic| array_get_dec) => `(tactic| repeat sizeOf_list_dec)
local macro_rules
  | `(tactic| sizeOf_list_dec) => `(tactic| first | with_reducible refine st_ix2_l ?_ | with_reducible refine st_ix2_t ?_ | with_reducible refine st_ix2_s ?_ | with_reducible refine st_ix2_lit ?_ | with_reducible refine st_inK_l ?_ | with_reducible refine st_inK_t ?_ | with_reducible refine st_ninK_l ?_ | with_reducible refine st_ninK_t ?_ | with_reducible refine st_setD ?_ | with_reducible refine st_onDc ?_ | with_reducible refine st_dget2 ?_ | with_reducible refine st_emT ?_ | with_reducible refine st_emD ?_ | with_reducible refine st_disp1 ?_ | with_reducible refine st_disp1k ?_ | with_reducible refine st_range3 ?_ | with_reducible refine st_bor ?_ | with_reducible refine st_borT ?_ | with_reducible refine st_bindT_nil ?_ | with_reducible refine st_bindT_d ?_ | with_reducible refine st_bindT_o ?_ | with_reducible refine st_bindT_t ?_ | with_reducible refine st_toPs_nil ?_ | with_reducible refine st_toPs_d ?_ | with_reducible refine st_toPs_l ?_ | with_reducible refine st_toPs_dc ?_ | with_reducible refine st_tupO ?_ | with_reducible refine st_var_tp ?_ | with_reducible refine st_frz_own_tp ?_ | with_reducible refine st_frz_top_tp ?_ | with_reducible refine st_lmP ?_ | ((with_reducible refine st_onP ?_ ?_); eq_refl) | with_reducible refine st_flat_b ?_ | with_reducible refine st_flat_i ?_)
local macro_rules
  | `(tactic| sizeOf_list_dec) => `(tactic| with_reducible refine is_whole_ok fun _ => ?_)
local macro_rules
  | `(tactic| sizeOf_list_dec) => `(tactic| first | with_reducible refine st_in_il ?_ | with_reducible refine st_in_it ?_ | with_reducible refine st_notIn_il ?_ | with_reducible refine st_notIn_it ?_ | with_reducible refine st_ne_ll ?_)
theorem lay_tups : ∀ F : List (List Int), PyData.canLayAll0 (F.map tupI) = true ∧ PyData.depthAll (F.map tupI) ≤ 2
  | [] => ⟨rfl, Nat.zero_le _⟩
  | S :: F => by
    obtain ⟨h1, h2⟩ := lay_tups F
    obtain ⟨h3, h4⟩ := lay_ints S
    have e : (tupI S).canLay0 = PyData.canLayAll0 (S.map PyData.int) := by unfold tupI; simp [PyData.canLay0]
    have e2 : (tupI S).depth ≤ 2 := by unfold tupI; simp [PyData.depth]; omega
    refine ⟨by show ((tupI S).canLay0 && PyData.canLayAll0 (F.map tupI)) = true; rw [h1, e, h3]; rfl, ?_⟩
    show max ((tupI S).depth) (PyData.depthAll (F.map tupI)) ≤ 2
    omega
theorem shaped_tups {F : List (List Int)} : SeqAt.shaped (.list (F.map tupI)) = true := by
  obtain ⟨h1, h2⟩ := lay_tups F
  unfold SeqAt.shaped
  rw [show (PyData.list (F.map tupI)).canLay0 = PyData.canLayAll0 (F.map tupI) from by simp [PyData.canLay0], h1]
  simp [PyData.depth]
  omega
theorem eqv_tupI {S T : List Int} : PyData.eqv (tupI S) (tupI T) = decide (S = T) := eqv_ints S T
theorem eqv_tups : ∀ F G : List (List Int), PyData.eqvAll (F.map tupI) (G.map tupI) = decide (F = G)
  | [], [] => rfl
  | [], _ :: _ => rfl
  | _ :: _, [] => rfl
  | n :: ns, m :: ms => by
    show (PyData.eqv (tupI n) (tupI m) && PyData.eqvAll (ns.map tupI) (ms.map tupI)) = _
    rw [eqv_tups ns ms, eqv_tupI]
    by_cases h1 : n = m <;> by_cases h2 : ns = ms <;> simp [h1, h2]
theorem st_ne_tups {F G : List (List Int)} {k : R → Prop} (h : k (.d (.bool (!decide (F = G))))) : cNe (.list (F.map tupI)) (.list (G.map tupI)) k := by
  refine st_ne (x := .list (F.map tupI)) (y := .list (G.map tupI)) shaped_tups shaped_tups ?_
  show k (.d (.bool (!PyData.eqvAll (F.map tupI) (G.map tupI))))
  rw [eqv_tups]
  exact h
theorem st_prs_nil {ps : List (Int × Int)} {k : R → Prop} (h : k (.d (.bool (decide (ps = []))))) : cEq (.list (ps.map pairD)) (.list []) k := by
  refine st_eq (x := .list (ps.map pairD)) (y := .list []) shaped_pairsL rfl ?_
  cases ps with
  | nil => exact h
  | cons p ps => exact h
theorem dec_iff {P : Prop} : dec P = true ↔ P := by
  unfold dec
  exact @decide_eq_true_iff P (Classical.propDecidable P)
def HuesG (n : Int) (ts : List (Int × Int)) (hs : List Int) : Prop := (hs.length : Int) = n ∧ (∀ z ∈ hs, 0 ≤ z) ∧ ∀ p ∈ ts, atZ hs p.1 ≠ atZ hs p.2
theorem are_hues_x {n : Int} {ts : List (Int × Int)} {hs : List Int} (g : Good n ts) (hl : hs.length ≤ 100) {X : XF} {Q : R → S → Prop} (h : ∀ fin, Q (.d (.bool (dec (HuesG n ts hs)))) fin) : m_are_hues [.d (webD n ts), .d (.tuple (hs.map .int))] X Q := by
  have n0 := g.n0
  have n10 := g.n10
  have tf := g.few
  unfold m_are_hues b_are_hues
  refine st_sem rfl ?_
  array_get_dec
  refine need_web_ok g fun fin => ?_
  array_get_dec
  rw [List.length_map]
  refine st_ite (fun c => ?_) (fun c => ?_)
  · have c : ¬ (hs.length : Int) = n := by simpa using c
    array_get_dec
    rw [dec_f (fun q => c q.1)] at h
    exact h _
  have c : (hs.length : Int) = n := by simpa using c
  array_get_dec
  refine ⟨by rw [List.length_map]; show _ ≤ 16777216; omega, ?_⟩
  array_get_dec
  refine comp_list PyData.int (fun z => .bool (decide (z ≥ 0))) _ (fun z hz kT hkT => ?_) ?_
  · array_get_dec
    exact hkT
  array_get_dec
  refine st_all_map ?_
  array_get_dec
  refine st_ite (fun c2 => ?_) (fun c2 => ?_)
  · have c2 : ∃ z ∈ hs, z < 0 := by simpa using c2
    obtain ⟨z, hz, z0⟩ := c2
    array_get_dec
    rw [dec_f (fun q => by have := q.2.1 z hz; omega)] at h
    exact h _
  have c2 : ∀ z ∈ hs, 0 ≤ z := by simpa using c2
  array_get_dec
  refine ⟨by rw [List.length_map]; show _ ≤ 16777216; omega, ?_⟩
  array_get_dec
  refine comp_list pairD (fun p => .bool (!decide (atZ hs p.1 = atZ hs p.2))) _ (fun p hp kT hkT => ?_) ?_
  · have t := g.ties p hp
    array_get_dec
    refine st_ix_t (atZ_ok (by omega) (by omega)) ?_
    array_get_dec
    refine st_ix_t (atZ_ok (by omega) (by omega)) ?_
    array_get_dec
    exact hkT
  · array_get_dec
    refine st_all_map ?_
    rw [show (ts.all fun p => !decide (atZ hs p.1 = atZ hs p.2)) = dec (HuesG n ts hs) from ?_]
    · array_get_dec
      exact h _
    · apply Bool.eq_iff_iff.mpr
      rw [List.all_eq_true]
      constructor
      · intro q
        exact dec_t ⟨c, c2, fun p hp => by have := q p hp; simpa using this⟩
      · intro q p hp
        have q : HuesG n ts hs := dec_iff.mp q
        have := q.2.2 p hp
        simpa using this
theorem ahues_right_ok {n z : Int} {ts : List (Int × Int)} {hs : List Int} (g : Good n ts) (hl : hs.length = n.toNat) {X : XF} {Q : R → S → Prop} (h : ∀ z', Q (.d (.bool true)) [.l [.int z'], .d (webD n ts), .d (.tuple (hs.map .int))]) : m__law_ahues_right [.l [.int z], .d (webD n ts), .d (.tuple (hs.map .int))] X Q := by
  have n0 := g.n0
  have n10 := g.n10
  have tf := g.few
  unfold m__law_ahues_right b__law_ahues_right
  refine st_sem rfl ?_
  array_get_dec
  refine ⟨by unfold lim62; omega, ?_⟩
  array_get_dec
  refine loop_range1 (hi := 6) (fun i s => ∃ z, s = [.l [.int z], .d (webD n ts), .d (.tuple (hs.map .int)), .no, .no, .no, .no, .no, .no, .no, .no]) (fun s e => ?_) (fun i s k i0 i1 e hk => ?_) ⟨z, rfl⟩
  · obtain ⟨z, rfl⟩ := e
    array_get_dec
    exact h _
  obtain ⟨z, rfl⟩ := e
  have nxt : ∀ z, k [.l [.int z], .d (webD n ts), .d (.tuple (hs.map .int)), .no, .no, .no, .no, .no, .no, .no, .no] := fun z => hk _ ⟨z, rfl⟩
  refine st_nm ?_
  refine st_join (fun s => s = [.l [.int z], .d (webD n ts), .d (.tuple (hs.map .int)), .d (.int i), .l (hs.map .int), .no, .no, .no, .no, .no, .no]) ?_ (fun k hk => by array_get_dec; exact hk _ rfl)
  rintro s rfl
  refine st_join (fun s => ∃ (z a : Int), (0 ≤ a ∧ a ≤ n) ∧ s = [.l [.int z], .d (webD n ts), .d (.tuple (hs.map .int)), .d (.int i), .l (hs.map .int), .d (.int a), .no, .no, .no, .no, .no]) ?_ (fun k hk => by
    array_get_dec
    rw [List.length_map, hl]
    refine digit_ok (by omega) (Nat.lt_of_lt_of_le (show (((n.toNat : Nat) : Int) + 1).natAbs < 2 ^ 8 by omega) (Nat.pow_le_pow_right (by decide) (by decide))) ?_
    have m0 : 0 ≤ z % (((n.toNat : Nat) : Int) + 1) := Int.emod_nonneg _ (by omega)
    have m1 : z % (((n.toNat : Nat) : Int) + 1) < ((n.toNat : Nat) : Int) + 1 := Int.emod_lt_of_pos _ (by omega)
    generalize z % (((n.toNat : Nat) : Int) + 1) = a at m0 m1
    generalize z / (((n.toNat : Nat) : Int) + 1) = z1
    array_get_dec
    exact hk _ ⟨z1, a, ⟨m0, by omega⟩, rfl⟩)
  clear z
  rintro s ⟨z, a, ⟨a0, a1⟩, rfl⟩
  refine st_join (fun s => ∃ (z : Int) (hs' : List Int), (hs'.length : Int) = n ∧ s = [.l [.int z], .d (webD n ts), .d (.tuple (hs.map .int)), .d (.int i), .l (hs'.map .int), .d (.int a), .no, .no, .no, .no, .no]) ?_ (fun k hk => by
    have same := hk _ ⟨z, hs, by omega, rfl⟩
    array_get_dec
    refine st_ite (fun c => ?_) (fun c => ?_)
    · array_get_dec
      rw [List.length_map, hl]
      refine st_ite (fun c => ?_) (fun c => ?_)
      · have c := of_decide_eq_true c
        array_get_dec
        refine digit_ok (by decide) (by decide) ?_
        have m0 : 0 ≤ z % 5 := Int.emod_nonneg _ (by decide)
        have m1 : z % 5 < 5 := Int.emod_lt_of_pos _ (by decide)
        generalize z % 5 = b at m0 m1
        array_get_dec
        refine st_ix_l (xs := ([0, 1, 2, -1, 100000000000000000000] : List Int).map .int) (atZ_ok m0 (by simpa using m1)) ?_
        array_get_dec
        refine ⟨a0, by rw [List.length_map]; omega, ?_⟩
        array_get_dec
        rw [← List.map_set]
        exact hk _ ⟨_, hs.set a.toNat _, by rw [List.length_set]; omega, rfl⟩
      · array_get_dec
        exact same
    · array_get_dec
      exact same)
  clear z
  rintro s ⟨z, ks, kl, rfl⟩
  refine st_join (fun s => ∃ (z : Int) (ks : List Int), ks.length ≤ 10 ∧ s = [.l [.int z], .d (webD n ts), .d (.tuple (hs.map .int)), .d (.int i), .l (ks.map .int), .d (.int a), .no, .no, .no, .no, .no]) ?_ (fun k hk => by
    have same := hk _ ⟨z, ks, by omega, rfl⟩
    array_get_dec
    refine st_ite (fun c => ?_) (fun c => ?_)
    · obtain ⟨b, rfl⟩ := Int.eq_ofNat_of_zero_le a0
      array_get_dec
      rw [cut_to, show (b : Int) + 1 = ((b + 1 : Nat) : Int) from rfl, cut_from]
      have e1 := List.length_take_le b ks
      have e2 : (ks.drop (b + 1)).length = ks.length - (b + 1) := List.length_drop
      have e3 : (ks.take b).length ≤ b := by rw [List.length_take]; omega
      refine st_add_l (by rw [List.length_map, List.length_map]; show _ ≤ 16777216; omega) ?_
      array_get_dec
      rw [← List.map_append]
      exact hk _ ⟨z, _, by rw [List.length_append]; omega, rfl⟩
    · array_get_dec
      exact same)
  clear kl ks z
  rintro s ⟨z, ks, kl, rfl⟩
  refine st_join (fun s => ∃ (z : Int) (ks : List Int), ks.length ≤ 11 ∧ s = [.l [.int z], .d (webD n ts), .d (.tuple (hs.map .int)), .d (.int i), .l (ks.map .int), .d (.int a), .no, .no, .no, .no, .no]) ?_ (fun k hk => by
    have same := hk _ ⟨z, ks, by omega, rfl⟩
    array_get_dec
    refine st_ite (fun c => ?_) (fun c => ?_)
    · array_get_dec
      refine st_add_l (by rw [List.length_map]; show _ + 1 ≤ 16777216; omega) ?_
      array_get_dec
      have := hk _ ⟨z, ks ++ [7], by rw [List.length_append]; simpa using kl, rfl⟩
      rw [List.map_append] at this
      exact this
    · array_get_dec
      exact same)
  clear kl ks z
  rintro s ⟨z, ks, kl, rfl⟩
  refine st_join (fun s => s = [.l [.int z], .d (webD n ts), .d (.tuple (hs.map .int)), .d (.int i), .l (ks.map .int), .d (.int a), .d (.tuple (ks.map .int)), .no, .no, .no, .no]) ?_ (fun k hk => by array_get_dec; exact hk _ rfl)
  rintro s rfl
  refine st_join (fun s => ∃ w : SV, (w = .l (ks.map .int) ∨ w = .d (.list (ks.map .int))) ∧ s = [.l [.int z], .d (webD n ts), .d (.tuple (hs.map .int)), .d (.int i), w, .d (.int a), .d (.tuple (ks.map .int)), .d (.bool (dec ((ks.length : Int) = n ∧ ∀ z ∈ ks, 0 ≤ z))), .no, .no, .no]) ?_ (fun k hk => by
    array_get_dec
    rw [List.length_map]
    refine st_ite (fun c => ?_) (fun c => ?_)
    · have c := of_decide_eq_true c
      array_get_dec
      refine ⟨by rw [List.length_map]; show _ ≤ 16777216; omega, ?_⟩
      array_get_dec
      refine comp_filter PyData.int PyData.int (fun z => decide (z < 0)) _ (fun z hz kT kF hT hF => ?_) ?_
      · array_get_dec
        refine st_ite (fun c => ?_) (fun c => ?_)
        · array_get_dec
          exact hT c
        · exact hF c
      array_get_dec
      refine st_eq_ll (ms := []) ?_
      rw [show decide ((ks.filter fun z => decide (z < 0)) = []) = dec ((ks.length : Int) = n ∧ ∀ z ∈ ks, 0 ≤ z) from ?_]
      · array_get_dec
        exact hk _ ⟨_, .inr rfl, rfl⟩
      · apply Bool.eq_iff_iff.mpr
        rw [dec_iff, decide_eq_true_eq, List.filter_eq_nil_iff]
        constructor
        · intro q
          exact ⟨c, fun z hz => by have := q z hz; simpa using this⟩
        · intro q z hz
          have := q.2 z hz
          simpa using this
    · have c := of_decide_eq_false c
      array_get_dec
      rw [dec_f (fun q => c q.1)] at hk
      exact hk _ ⟨_, .inl rfl, rfl⟩)
  rintro s ⟨w, hw, rfl⟩
  refine st_join (fun s => s = [.l [.int z], .d (webD n ts), .d (.tuple (hs.map .int)), .d (.int i), w, .d (.int a), .d (.tuple (ks.map .int)), .d (.bool (dec (HuesG n ts ks))), .no, .no, .no]) ?_ (fun k hk => by
    array_get_dec
    refine st_ite (fun c => ?_) (fun c => ?_)
    · have c := dec_iff.mp c
      rw [show webD n ts = PyData.tuple [.int n, .tuple (ts.map pairD)] from rfl] at hk ⊢
      array_get_dec
      refine ⟨by rw [List.length_map]; show _ ≤ 16777216; omega, ?_⟩
      array_get_dec
      refine comp_filter pairD pairD (fun p => decide (atZ ks p.1 = atZ ks p.2)) _ (fun p hp kT kF hT hF => ?_) ?_
      · have t := g.ties p hp
        rw [show pairD p = PyData.tuple [.int p.1, .int p.2] from rfl] at *
        rcases hw with rfl | rfl
        all_goals
          array_get_dec
          refine st_ix_l (atZ_ok (by omega) (by omega)) ?_
          array_get_dec
          refine st_ix_l (atZ_ok (by omega) (by omega)) ?_
          array_get_dec
          refine st_ite (fun c => ?_) (fun c => ?_)
          · array_get_dec
            exact hT c
          · exact hF c
      array_get_dec
      refine st_prs_nil ?_
      rw [show decide ((ts.filter fun p => decide (atZ ks p.1 = atZ ks p.2)) = []) = dec (HuesG n ts ks) from ?_]
      · array_get_dec
        exact hk _ rfl
      · apply Bool.eq_iff_iff.mpr
        rw [dec_iff, decide_eq_true_eq, List.filter_eq_nil_iff]
        constructor
        · intro q
          exact ⟨c.1, c.2, fun p hp => by have := q p hp; simpa using this⟩
        · intro q p hp
          have := q.2.2 p hp
          simpa using this
    · array_get_dec
      rw [dec_f (fun q => (by rw [dec_t ⟨q.1, q.2.1⟩] at c; cases c))] at hk
      exact hk _ rfl)
  rintro s rfl
  array_get_dec
  refine are_hues_x g (by omega) fun fin => ?_
  array_get_dec
  trace_state
  exact nxt _
theorem fp_len {ts : List (Int × Int)} {S : List Int} (hl : S.length ≤ 10) : (fp ts S).length ≤ 1024 := by
  unfold fp
  rw [fp_fold]
  have fl := aps_len (ts := ts) (S.drop 1) [S.take 1]
  rw [List.length_singleton, Nat.one_mul] at fl
  have f2 : 2 ^ (S.drop 1).length ≤ 2 ^ 10 := Nat.pow_le_pow_right (by decide) (by rw [List.length_drop]; omega)
  have f3 : (2 : Nat) ^ 10 = 1024 := by decide
  omega
theorem sb_last : ∀ n : Nat, ∃ pre, sb n = pre ++ [rangeI n]
  | 0 => ⟨[], rfl⟩
  | n + 1 => by
    obtain ⟨pre, e⟩ := sb_last n
    refine ⟨sb n ++ pre.map (· ++ [(n : Int)]), ?_⟩
    show sb n ++ (sb n).map (· ++ [(n : Int)]) = _
    have : rangeI (n + 1) = rangeI n ++ [(n : Int)] := by
      unfold rangeI
      rw [List.range_succ, List.map_append]
      rfl
    have e2 : (sb n).map (· ++ [(n : Int)]) = pre.map (· ++ [(n : Int)]) ++ [rangeI n ++ [(n : Int)]] := by rw [e, List.map_append]; rfl
    rw [this, e2, List.append_assoc]
theorem sb_first (n : Nat) : ∃ r, sb n = [] :: r := by
  induction n with
  | zero => exact ⟨[], rfl⟩
  | succ n ih =>
    obtain ⟨r, e⟩ := ih
    exact ⟨r ++ (sb n).map (· ++ [(n : Int)]), by show sb n ++ _ = _; rw [e]; rfl⟩
theorem asets_eq : m__law_asets = m_all_sets := rfl
theorem sb_small {n : Int} (h10 : n ≤ 10) : (sb n.toNat).length ≤ 1024 := by
  rw [sb_len]
  exact Nat.le_trans (Nat.pow_le_pow_right (by decide) (show n.toNat ≤ 10 by omega)) (by decide)
def AgB (ts : List (Int × Int)) (w : Bool) (ls : List Int) : Prop := ls.Pairwise fun a b => Tb ts a b = w
theorem apart_iff {n : Int} {ts : List (Int × Int)} {K : List Int} (g : Good n ts) (hs : Set' n K) : (ts.filter fun p => decide (p.1 ∈ K) && decide (p.2 ∈ K)) = [] ↔ AgB ts false K := by
  rw [List.filter_eq_nil_iff]
  constructor
  · intro h
    refine hs.up.imp_of_mem fun {a b} ha hb l => ?_
    rw [Bool.eq_false_iff]
    intro t
    unfold Tb at t
    rw [Int.min_eq_left (by omega), Int.max_eq_right (by omega), decide_eq_true_eq] at t
    exact h _ t (by simp [ha, hb])
  · intro h p hp c
    simp only [Bool.and_eq_true, decide_eq_true_eq] at c
    have hg := g.ties p hp
    have t : Tb ts p.1 p.2 = true := by
      unfold Tb
      rw [Int.min_eq_left (by omega), Int.max_eq_right (by omega)]
      simpa using hp
    obtain ⟨i, hi, e1⟩ := List.getElem_of_mem c.1
    obtain ⟨j, hj, e2⟩ := List.getElem_of_mem c.2
    have q := List.pairwise_iff_getElem.mp h
    rcases Nat.lt_trichotomy i j with l | l | l
    · have := q i j hi hj l
      rw [e1, e2, t] at this
      cases this
    · subst l
      omega
    · have := q j i hj hi l
      rw [e1, e2, Tb_symm, t] at this
      cases this
theorem lis_apart_x {n : Int} {ts : List (Int × Int)} {K : List Int} (g : Good n ts) (hs : Set' n K) {X : XF} {Q : R → S → Prop} (h : ∀ fin, Q (.d (.bool (dec (AgB ts false K)))) fin) : m__law_ais_apart [.d (webD n ts), .d (.tuple (K.map .int))] X Q := by
  have few := good_few g
  unfold m__law_ais_apart b__law_ais_apart
  refine st_sem rfl ?_
  array_get_dec
  refine ⟨by rw [List.length_map]; show _ ≤ 16777216; omega, ?_⟩
  array_get_dec
  refine comp_filter pairD pairD (fun p => decide (p.1 ∈ K) && decide (p.2 ∈ K)) _ (fun p hp kT kF hT hF => ?_) ?_
  · obtain ⟨a, b⟩ := p
    rw [show pairD (a, b) = PyData.tuple [.int a, .int b] from rfl]
    dsimp only at hT hF
    array_get_dec
    refine st_ite (fun c => ?_) (fun c => ?_)
    · rw [c] at hT hF
      array_get_dec
      refine st_ite (fun c2 => ?_) (fun c2 => ?_)
      · rw [c2] at hT
        array_get_dec
        exact hT rfl
      · rw [c2] at hF
        array_get_dec
        exact hF rfl
    · rw [c] at hF
      array_get_dec
      exact hF rfl
  · array_get_dec
    refine st_prs_nil ?_
    have e : decide ((ts.filter fun p => decide (p.1 ∈ K) && decide (p.2 ∈ K)) = []) = dec (AgB ts false K) := by
      by_cases a : AgB ts false K
      · rw [dec_t a]
        exact decide_eq_true ((apart_iff g hs).mpr a)
      · rw [dec_f a]
        exact decide_eq_false fun q => a ((apart_iff g hs).mp q)
    rw [e]
    array_get_dec
    exact h _
theorem ap_snoc {ts : List (Int × Int)} {T : List Int} {p : Int} (h : AgB ts false T) : AgB ts false (T ++ [p]) ↔ (!(T.any fun o => Tb ts o p)) = true := by
  unfold AgB at h ⊢
  rw [List.pairwise_append, Bool.not_eq_true', List.any_eq_false]
  constructor
  · intro q o ho
    have := q.2.2 o ho p (by simp)
    simp [this]
  · intro q
    refine ⟨h, List.pairwise_singleton _ _, fun o ho x hx => ?_⟩
    rw [List.mem_singleton.mp hx]
    have := q o ho
    simpa using this
/-- what the law calls parts -/
theorem aparts_ok {n : Int} {ts : List (Int × Int)} {S : List Int} (g : Good n ts) (hs : Set' n S) {X : XF} {Q : R → Hs.S → Prop} (h : ∀ fin, Q (.own (.l ((fp ts S).map tupI))) fin) : m__law_aparts_of [.d (webD n ts), .d (.tuple (S.map .int))] X Q := by
  have few := hs.few g.n10
  have up := hs.up
  unfold m__law_aparts_of b__law_aparts_of
  refine st_sem rfl ?_
  array_get_dec
  rw [show (1 : Int) = ((1 : Nat) : Int) from rfl, cut_to, cut_from]
  refine loop_list PyData.int (fun l s => ∃ done, S.drop 1 = done ++ l ∧ (∀ T ∈ done.foldl (apsS ts) [S.take 1], T.Sublist (S.take 1 ++ done) ∧ AgB ts false T) ∧ s = [.d (webD n ts), .d (.tuple (S.map .int)), .l ((done.foldl (apsS ts) [S.take 1]).map tupI), .no, .no, .no]) (fun s hI => ?_) (fun p l s k hI hk => ?_) _ _ ⟨[], rfl, fun T hT => by
    have hT : T = S.take 1 := List.mem_singleton.mp hT
    subst hT
    rw [List.append_nil]
    refine ⟨List.Sublist.refl _, ?_⟩
    cases S with
    | nil => exact .nil
    | cons x r => exact List.pairwise_singleton _ _, rfl⟩
  · obtain ⟨done, e, _, rfl⟩ := hI
    rw [List.append_nil] at e
    rw [← e, ← fp_fold]
    array_get_dec
    exact h _
  · obtain ⟨done, e, hsub, rfl⟩ := hI
    have dl : done.length + 1 + l.length = (S.drop 1).length := by rw [e, List.length_append, List.length_cons]; omega
    rw [List.length_drop] at dl
    have fl := aps_len (ts := ts) done [S.take 1]
    have f2 : 2 ^ done.length ≤ 2 ^ 10 := Nat.pow_le_pow_right (by decide) (by omega)
    have f3 : (2 : Nat) ^ 10 = 1024 := by decide
    rw [List.length_singleton, Nat.one_mul] at fl
    have eS : S = (S.take 1 ++ done) ++ p :: l := by rw [List.append_assoc, ← e, List.take_append_drop]
    have setT : ∀ T ∈ done.foldl (apsS ts) [S.take 1], Set' n (T ++ [p]) := fun T hT => by
      have sb : (T ++ [p]).Sublist S := by
        rw [eS]
        exact (hsub T hT).1.append (List.Sublist.cons_cons p (List.nil_sublist l))
      exact ⟨hs.up.sublist sb, fun z hz => hs.lt z (sb.subset hz)⟩
    have el : ∀ T ∈ done.foldl (apsS ts) [S.take 1], T.length ≤ 20 := fun T hT => by
      have := (hsub T hT).1.length_le
      rw [List.length_append, List.length_take] at this
      omega
    have apT : ∀ T ∈ done.foldl (apsS ts) [S.take 1], AgB ts false T := fun T hT => (hsub T hT).2
    have nxt : k [.d (webD n ts), .d (.tuple (S.map .int)), .l (((done ++ [p]).foldl (apsS ts) [S.take 1]).map tupI), .no, .no, .no] := hk _ ⟨done ++ [p], by rw [e]; simp, fun T hT => by
      rw [List.foldl_append, List.foldl_cons, List.foldl_nil] at hT
      unfold apsS at hT
      rcases List.mem_append.mp hT with hT | hT
      · exact ⟨(hsub T hT).1.trans (by rw [← List.append_assoc]; exact List.sublist_append_left _ _), (hsub T hT).2⟩
      · obtain ⟨U, hU, rfl⟩ := List.mem_map.mp hT
        obtain ⟨hU, hq⟩ := List.mem_filter.mp hU
        rw [← List.append_assoc]
        exact ⟨(hsub U hU).1.append (List.Sublist.refl _), (ap_snoc (hsub U hU).2).mpr hq⟩, rfl⟩
    rw [List.foldl_append, List.foldl_cons, List.foldl_nil] at nxt
    generalize done.foldl (apsS ts) [S.take 1] = F at *
    unfold apsS at nxt
    array_get_dec
    refine loop_list tupI (fun l s => ∃ dn, F = dn ++ l ∧ s = [.d (webD n ts), .d (.tuple (S.map .int)), .d (.list (F.map tupI)), .d (.int p), .l (((dn.filter fun P => !(P.any fun o => Tb ts o p)).map (· ++ [p])).map tupI), .no]) (fun s hI => ?_) (fun T l2 s k2 hI hk2 => ?_) _ _ ⟨[], rfl, rfl⟩
    · obtain ⟨dn, e2, rfl⟩ := hI
      rw [List.append_nil] at e2
      subst e2
      array_get_dec
      have := List.length_filter_le (fun P : List Int => !(P.any fun o => Tb ts o p)) F
      refine st_add_l (by rw [List.length_map, List.length_map, List.length_map]; show _ ≤ 16777216; omega) ?_
      array_get_dec
      rw [← List.map_append]
      exact nxt
    · obtain ⟨dn, e2, rfl⟩ := hI
      have hT : T ∈ F := by rw [e2]; simp
      have sT := setT T hT
      have elT := el T hT
      have aT := apT T hT
      have dn1 : dn.length ≤ 1024 := by have := congrArg List.length e2; rw [List.length_append] at this; omega
      have dn2 := List.length_filter_le (fun P : List Int => !(P.any fun o => Tb ts o p)) dn
      have cond : dec (AgB ts false (T ++ [p])) = !(T.any fun o => Tb ts o p) := by
        apply Bool.eq_iff_iff.mpr
        rw [dec_iff]
        exact ap_snoc aT
      have stp : ∀ b, (!(T.any fun o => Tb ts o p)) = b → k2 [.d (webD n ts), .d (.tuple (S.map .int)), .d (.list (F.map tupI)), .d (.int p), .l ((((dn.filter fun P => !(P.any fun o => Tb ts o p)) ++ if b = true then [T] else []).map (· ++ [p])).map tupI), .no] := fun b hb => hk2 _ ⟨dn ++ [T], by rw [e2]; simp, by
        rw [List.filter_append, List.filter_cons, List.filter_nil, hb]⟩
      rw [show tupI T = PyData.tuple (T.map .int) from rfl]
      array_get_dec
      refine st_add_t (by rw [List.length_map]; show _ + 1 ≤ 16777216; omega) ?_
      array_get_dec
      rw [show T.map PyData.int ++ [.int p] = (T ++ [p]).map .int by simp]
      refine lis_apart_x g sT fun fin => ?_
      rw [cond]
      array_get_dec
      refine st_ite (fun c => ?_) (fun c => ?_)
      · array_get_dec
        refine st_add_t (by rw [List.length_map]; show _ + 1 ≤ 16777216; omega) ?_
        array_get_dec
        refine st_append (by rw [List.length_map, List.length_map]; show _ < 16777216; omega) ?_
        array_get_dec
        have := stp true c
        rw [if_pos rfl, List.map_append, List.map_append] at this
        rw [show T.map PyData.int ++ [.int p] = (T ++ [p]).map .int by simp]
        exact this
      · array_get_dec
        have := stp false c
        rw [if_neg (by decide), List.append_nil] at this
        exact this
theorem st_sortTE {nss : List (List Int)} {k : R → Prop} (h : ∀ mss : List (List Int), mss.Perm nss → mss.Pairwise (fun a b => lexL b a = false) → k (.own (.l (mss.map tupI)))) : bSortTE [.list (nss.map tupI)] k := by
  show (match tupsOf (nss.map tupI) with
    | some nss => ∀ mss : List (List Int), mss.Perm nss → mss.Pairwise (fun a b => lexL b a = false) → k (.own (.l (mss.map tupI)))
    | none => False)
  rw [tupsOf_map]
  exact h
def lkI (kvs : List (List Int × Int)) (S : List Int) : Int := (lkT kvs S).getD 0
theorem lk_some {kvs : List (List Int × Int)} {S : List Int} (h : S ∈ kvs.map (·.1)) : lkT kvs S = some (lkI kvs S) := by
  have q := lkT_iff.mpr h
  unfold lkI
  cases e : lkT kvs S with
  | none => rw [e] at q; cases q
  | some x => rfl
def FloorsG (n : Int) (ts : List (Int × Int)) (kvs : List (List Int × Int)) : Prop :=
  (kvs.map (·.1)).Perm (sb n.toNat) ∧ lkI kvs [] ≤ 0 ∧ ∀ S ∈ sb n.toNat, S ≠ [] → ∀ P ∈ fp ts S, lkI kvs S ≤ 1 + lkI kvs (wo S P)
theorem keysI (kvs : List (List Int × Int)) : (kvs.map fun p => (p.1, PyData.int p.2)).map (·.1) = kvs.map (·.1) := by
  rw [List.map_map]
  rfl
theorem aare_floors_x {n : Int} {ts : List (Int × Int)} {kvs : List (List Int × Int)} (g : Good n ts) {X : XF} {Q : R → S → Prop} (h : ∀ fin, Q (.d (.bool (dec (FloorsG n ts kvs)))) fin) : m__law_aare_floors [.d (webD n ts), .d (.dict (dcI kvs))] X Q := by
  have n0 := g.n0
  have n10 := g.n10
  have sl := sb_small n10
  have fin' : ∀ S, S ∈ sb n.toNat → Set' n S := fun S hS => by
    have := sb_iff.mp hS
    rw [show ((n.toNat : Nat) : Int) = n by omega] at this
    exact this
  have hin : ∀ S, Set' n S → S ∈ sb n.toNat := fun S hS => sb_iff.mpr (by rw [show ((n.toNat : Nat) : Int) = n by omega]; exact hS)
  unfold m__law_aare_floors b__law_aare_floors
  refine st_sem rfl ?_
  array_get_dec
  rw [asets_eq]
  refine all_sets_ok n0 n10 fun fin => ?_
  array_get_dec
  refine st_sortD fun mss h1 h2 => ?_
  array_get_dec
  refine st_sortTE fun nss h3 h4 => ?_
  array_get_dec
  refine st_ne_tups ?_
  array_get_dec
  rw [keysI] at h1
  refine st_ite (fun c => ?_) (fun c => ?_)
  · have c : ¬ mss = nss := by simpa using c
    array_get_dec
    rw [dec_f (fun q => c (sort_one ((h1.trans q.1).trans h3.symm) h2 h4))] at h
    exact h _
  have c : mss = nss := by simpa using c
  have pm : (kvs.map (·.1)).Perm (sb n.toNat) := by
    subst c
    exact h1.symm.trans h3
  have lk : ∀ S, Set' n S → lkT kvs S = some (lkI kvs S) := fun S hS => lk_some (pm.mem_iff.mpr (hin S hS))
  clear h1 h2 h3 h4
  array_get_dec
  refine dcI_ix (k := []) (lk [] ⟨.nil, fun z hz => (nomatch hz)⟩) ?_
  array_get_dec
  refine st_ite (fun c => ?_) (fun c => ?_)
  · have c : 0 < lkI kvs [] := of_decide_eq_true c
    array_get_dec
    rw [dec_f (fun q => by have := q.2.1; omega)] at h
    exact h _
  have c0 : lkI kvs [] ≤ 0 := by have := of_decide_eq_false c; omega
  array_get_dec
  rw [show (1 : Int) = ((1 : Nat) : Int) from rfl, cut_from]
  obtain ⟨r0, er⟩ := sb_first n.toNat
  refine loop_list tupI (fun l s => (∀ S ∈ l, Set' n S ∧ S ≠ []) ∧ (∀ S ∈ sb n.toNat, S ≠ [] → S ∈ l ∨ ∀ P ∈ fp ts S, lkI kvs S ≤ 1 + lkI kvs (wo S P)) ∧ s = [.d (webD n ts), .d (.dict (dcI kvs)), .l ((sb n.toNat).map tupI), .no, .no, .no]) ?_ ?_ _ _ ⟨fun S hS => ⟨fin' S (List.mem_of_mem_drop hS), fun e => by
      subst e
      have nd := sb_nodup n.toNat
      rw [er] at nd hS
      exact (List.nodup_cons.mp nd).1 hS⟩, fun S hS hne => .inl (by
      rw [er] at hS ⊢
      rcases List.mem_cons.mp hS with rfl | hS
      · exact (hne rfl).elim
      · exact hS), rfl⟩
  · rintro s ⟨_, all, rfl⟩
    array_get_dec
    rw [dec_t ⟨pm, c0, fun S hS hne => (all S hS hne).resolve_left (fun q => (nomatch q))⟩] at h
    exact h _
  · rintro S l s k ⟨hS, all, rfl⟩ hk
    obtain ⟨sS, hne⟩ := hS S List.mem_cons_self
    have few := sS.few n10
    rw [show tupI S = PyData.tuple (S.map .int) from rfl]
    array_get_dec
    refine aparts_ok g sS fun fin => ?_
    array_get_dec
    refine loop_list tupI (fun l s => (∀ P ∈ l, P ∈ fp ts S) ∧ (∀ P ∈ fp ts S, P ∈ l ∨ lkI kvs S ≤ 1 + lkI kvs (wo S P)) ∧ s = [.d (webD n ts), .d (.dict (dcI kvs)), .l ((sb n.toNat).map tupI), .d (.tuple (S.map .int)), .no, .no]) ?_ ?_ _ _ ⟨fun P hP => hP, fun P hP => .inl hP, rfl⟩
    · rintro s ⟨_, allP, rfl⟩
      array_get_dec
      refine hk _ ⟨fun T hT => hS T (List.mem_cons_of_mem _ hT), fun T hT hne' => ?_, rfl⟩
      rcases all T hT hne' with q | q
      · rcases List.mem_cons.mp q with rfl | q
        · exact .inr fun P hP => (allP P hP).resolve_left fun q => (nomatch q)
        · exact .inl q
      · exact .inr q
    · rintro P l2 s k2 ⟨hP, allP, rfl⟩ hk2
      have hPS := hP P List.mem_cons_self
      have sw : Set' n (wo S P) := wo_set sS
      rw [show tupI P = PyData.tuple (P.map .int) from rfl, show PyData.tuple (S.map .int) = tupI S from rfl]
      array_get_dec
      refine dcI_ix (lk S sS) ?_
      rw [show tupI S = PyData.tuple (S.map .int) from rfl]
      array_get_dec
      refine ⟨by rw [List.length_map]; show _ ≤ 16777216; omega, ?_⟩
      array_get_dec
      refine comp_filter PyData.int PyData.int (fun z => !decide (z ∈ P)) _ (fun z hz kT kF hT hF => ?_) ?_
      · array_get_dec
        refine st_ite (fun c => ?_) (fun c => ?_)
        · array_get_dec
          exact hT c
        · exact hF c
      array_get_dec
      rw [show PyData.tuple ((S.filter fun z => !decide (z ∈ P)).map .int) = tupI (wo S P) from rfl]
      refine dcI_ix (lk _ sw) ?_
      array_get_dec
      refine st_ite (fun c2 => ?_) (fun c2 => ?_)
      · have c2 : 1 + lkI kvs (wo S P) < lkI kvs S := of_decide_eq_true c2
        array_get_dec
        rw [dec_f (fun q => by have := q.2.2 S (hin S sS) hne P hPS; omega)] at h
        exact h _
      · have c2 := of_decide_eq_false c2
        array_get_dec
        refine hk2 _ ⟨fun T hT => hP T (List.mem_cons_of_mem _ hT), fun T hT => ?_, rfl⟩
        rcases allP T hT with q | q
        · rcases List.mem_cons.mp q with rfl | q
          · exact .inr (by omega)
          · exact .inl q
        · exact .inr q
theorem nodup_perm {α : Type} [DecidableEq α] : ∀ {l m : List α}, m.Nodup → (∀ z ∈ m, z ∈ l) → l.length = m.length → l.Perm m
  | l, [], _, _, e => by rw [List.length_eq_zero_iff.mp e]
  | l, a :: m, hn, hs, e => by
    obtain ⟨h1, h2⟩ := List.nodup_cons.mp hn
    have h3 := hs a List.mem_cons_self
    have p := List.perm_cons_erase h3
    refine p.trans (List.Perm.cons a (nodup_perm h2 (fun z hz => ?_) ?_))
    · exact (List.mem_erase_of_ne (fun e => h1 (by rw [← e]; exact hz))).mpr (hs z (List.mem_cons_of_mem _ hz))
    · rw [List.length_erase_of_mem h3, e, List.length_cons]
      omega
theorem perm_sb {n : Nat} {kvs : List (List Int × Int)} (hl : kvs.length = (sb n).length) (hs : ∀ S ∈ sb n, S ∈ kvs.map (·.1)) : (kvs.map (·.1)).Perm (sb n) :=
  nodup_perm (sb_nodup n) hs (by rw [List.length_map]; exact hl)
theorem are_floors_x {n m : Int} {ts : List (Int × Int)} {kvs : List (List Int × Int)} (g : Good n ts) {X : XF} {Q : R → S → Prop} (h : Q (.d (.bool (dec (FloorsG n ts kvs ∧ m ≤ lkI kvs (rangeI n.toNat))))) [.d (webD n ts), .d (.dict (dcI kvs)), .d (.int m)]) : m_are_floors [.d (webD n ts), .d (.dict (dcI kvs)), .d (.int m)] X Q := by
  have n0 := g.n0
  have n10 := g.n10
  have sl := sb_small n10
  have fin' : ∀ S, S ∈ sb n.toNat → Set' n S := fun S hS => by
    have := sb_iff.mp hS
    rw [show ((n.toNat : Nat) : Int) = n by omega] at this
    exact this
  have hin : ∀ S, Set' n S → S ∈ sb n.toNat := fun S hS => sb_iff.mpr (by rw [show ((n.toNat : Nat) : Int) = n by omega]; exact hS)
  unfold m_are_floors b_are_floors
  refine st_sem rfl ?_
  array_get_dec
  refine need_web_ok g fun fin => ?_
  array_get_dec
  refine all_sets_ok n0 n10 fun fin => ?_
  array_get_dec
  refine st_len2_T ?_
  array_get_dec
  rw [List.length_map, List.length_map, List.length_map]
  refine st_ite (fun c => ?_) (fun c => ?_)
  · have c : ¬ kvs.length = (sb n.toNat).length := fun q => by simp [q] at c
    array_get_dec
    rw [dec_f (fun q => c (by have := q.1.1.length_eq; rw [List.length_map] at this; exact this))] at h
    exact h
  have c : kvs.length = (sb n.toNat).length := by
    have c : (kvs.length : Int) = ((sb n.toNat).length : Int) := by simpa using c
    omega
  array_get_dec
  refine ⟨by rw [List.length_map]; show _ ≤ 16777216; omega, ?_⟩
  array_get_dec
  refine comp_list tupI (fun S => .bool (lkT kvs S).isSome) _ (fun S hS kT hkT => ?_) ?_
  · array_get_dec
    refine dcI_in ?_
    array_get_dec
    exact hkT
  array_get_dec
  refine st_all_map ?_
  array_get_dec
  refine st_ite (fun c2 => ?_) (fun c2 => ?_)
  · have c2 : ∃ S ∈ sb n.toNat, lkT kvs S = none := by simpa using c2
    obtain ⟨S, hS, e⟩ := c2
    array_get_dec
    rw [dec_f (fun q => by
      have := lk_some (q.1.1.mem_iff.mpr hS)
      rw [e] at this
      cases this)] at h
    exact h
  have c2 : ∀ S ∈ sb n.toNat, S ∈ kvs.map (·.1) := fun S hS => lkT_iff.mp (by
    have c2 : ∀ S ∈ sb n.toNat, (lkT kvs S).isSome = true := by simpa using c2
    exact c2 S hS)
  have pm := perm_sb c c2
  have lk : ∀ S, Set' n S → lkT kvs S = some (lkI kvs S) := fun S hS => lk_some (pm.mem_iff.mpr (hin S hS))
  array_get_dec
  refine loop_list tupI (fun l s => (∀ S ∈ l, Set' n S) ∧ (∀ S ∈ sb n.toNat, S ∈ l ∨ (S = [] → lkI kvs [] ≤ 0) ∧ (S ≠ [] → ∀ P ∈ fp ts S, lkI kvs S ≤ 1 + lkI kvs (wo S P))) ∧ s = [.d (webD n ts), .d (.dict (dcI kvs)), .d (.int m), .d (.list ((sb n.toNat).map tupI)), .no, .no]) ?_ ?_ _ _ ⟨fun S hS => fin' S hS, fun S hS => .inl hS, rfl⟩
  · rintro s ⟨_, all, rfl⟩
    have all : ∀ S ∈ sb n.toNat, (S = [] → lkI kvs [] ≤ 0) ∧ (S ≠ [] → ∀ P ∈ fp ts S, lkI kvs S ≤ 1 + lkI kvs (wo S P)) := fun S hS => (all S hS).resolve_left fun q => (nomatch q)
    have FG : FloorsG n ts kvs := ⟨pm, (all [] (hin [] ⟨.nil, fun z hz => (nomatch hz)⟩)).1 rfl, fun S hS hne => (all S hS).2 hne⟩
    obtain ⟨pre, e⟩ := sb_last n.toNat
    array_get_dec
    refine st_ix_l (x := tupI (rangeI n.toNat)) (by rw [e, List.map_append]; exact L2.atI_last _ _) ?_
    array_get_dec
    refine dcI_ix (lk _ (fin' _ (by rw [e]; simp))) ?_
    array_get_dec
    rw [show dec (FloorsG n ts kvs ∧ m ≤ lkI kvs (rangeI n.toNat)) = decide (lkI kvs (rangeI n.toNat) ≥ m) from by
      apply Bool.eq_iff_iff.mpr
      rw [dec_iff, decide_eq_true_eq]
      exact ⟨fun q => q.2, fun q => ⟨FG, q⟩⟩] at h
    exact h
  · rintro S l s k ⟨hS, all, rfl⟩ hk
    have sS := hS S List.mem_cons_self
    have few := sS.few n10
    have done : ((S = [] → lkI kvs [] ≤ 0) ∧ (S ≠ [] → ∀ P ∈ fp ts S, lkI kvs S ≤ 1 + lkI kvs (wo S P))) → k [.d (webD n ts), .d (.dict (dcI kvs)), .d (.int m), .d (.list ((sb n.toNat).map tupI)), .no, .no] := fun ok => hk _ ⟨fun T hT => hS T (List.mem_cons_of_mem _ hT), fun T hT => by
      rcases all T hT with q | q
      · rcases List.mem_cons.mp q with rfl | q
        · exact .inr ok
        · exact .inl q
      · exact .inr q, rfl⟩
    by_cases hn : S = []
    · subst hn
      rw [show tupI [] = PyData.tuple (([] : List Int).map .int) from rfl]
      array_get_dec
      refine st_eq_tt (ms := []) ?_
      rw [decide_eq_true rfl]
      array_get_dec
      refine dcI_ix (k := []) (lk [] sS) ?_
      array_get_dec
      refine st_ite (fun c => ?_) (fun c => ?_)
      · have c : 0 < lkI kvs [] := of_decide_eq_true c
        array_get_dec
        rw [dec_f (fun q => by have := q.1.2.1; omega)] at h
        exact h
      · have c := of_decide_eq_false c
        array_get_dec
        refine st_ne_tt (ns := []) (ms := []) ?_
        array_get_dec
        exact done ⟨fun _ => by omega, fun q => (q rfl).elim⟩
    · rw [show tupI S = PyData.tuple (S.map .int) from rfl]
      array_get_dec
      refine st_eq_tt (ms := []) ?_
      rw [decide_eq_false hn]
      array_get_dec
      refine st_ne_tt (ms := []) ?_
      rw [decide_eq_false hn]
      array_get_dec
      refine first_parts_ok few fun fin => ?_
      array_get_dec
      refine ⟨by
        rw [List.length_map]
        have := fp_len (ts := ts) (S := S) few
        show _ ≤ 16777216
        omega, ?_⟩
      array_get_dec
      refine comp_list tupI (fun P => .bool (decide (lkI kvs S ≤ lkI kvs (wo S P) + 1))) _ (fun P hP kT hkT => ?_) ?_
      · rw [show tupI P = PyData.tuple (P.map .int) from rfl]
        rw [show PyData.tuple (S.map .int) = tupI S from rfl]
        array_get_dec
        refine dcI_ix (lk S sS) ?_
        rw [show tupI S = PyData.tuple (S.map .int) from rfl]
        array_get_dec
        refine without_ok (by omega) fun fin => ?_
        array_get_dec
        rw [show PyData.tuple ((wo S P).map .int) = tupI (wo S P) from rfl]
        refine dcI_ix (lk _ (wo_set sS)) ?_
        array_get_dec
        exact hkT
      array_get_dec
      refine st_all_map ?_
      array_get_dec
      refine st_ite (fun c => ?_) (fun c => ?_)
      · have c : ∃ P ∈ fp ts S, lkI kvs (wo S P) + 1 < lkI kvs S := by simpa using c
        obtain ⟨P, hP, lt⟩ := c
        array_get_dec
        rw [dec_f (fun q => by have := q.1.2.2 S (hin S sS) hn P hP; omega)] at h
        exact h
      · have c : ∀ P ∈ fp ts S, lkI kvs S ≤ lkI kvs (wo S P) + 1 := by simpa using c
        array_get_dec
        exact done ⟨fun e => (hn e).elim, fun _ P hP => by have := c P hP; omega⟩
end Lk23
namespace Lk23
open PySem Hs
local macro_rules
  | `(tactic| sizeOf_list_dec) => `(tactic| first
    | with_reducible refine st_seq ?_ | with_reducible refine st_asg ?_ | with_reducible refine st_cons ?_ | with_reducible refine st_nil ?_ | with_reducible refine st_C ?_ | with_reducible refine st_op ?_
    | with_reducible refine st_var_d ?_ | with_reducible refine st_var_l ?_ | with_reducible refine st_var_ll ?_ | with_reducible refine st_var_dc ?_
    | with_reducible refine st_look_d ?_ | with_reducible refine st_look_top ?_ | with_reducible refine st_look_top_d ?_ | with_reducible refine st_look_own ?_ | with_reducible refine st_look_top_dc ?_ | with_reducible refine st_look_own_dc ?_ | with_reducible refine st_put_d ?_ | with_reducible refine st_put_own ?_ | with_reducible refine st_put_top_l ?_ | with_reducible refine st_put_top_ll ?_ | with_reducible refine st_put_top_dc ?_
    | ((with_reducible refine st_callF ?_ ?_); eq_refl) | with_reducible refine st_call ?_ | with_reducible refine st_putK_nil ?_ | with_reducible refine st_putK_t ?_ | with_reducible refine st_putK_f ?_ | with_reducible refine st_putK_td ?_ | with_reducible refine st_putK_to ?_ | with_reducible refine st_bind_nil ?_ | with_reducible refine st_bind_f ?_ | with_reducible refine st_bind_tt ?_ | with_reducible refine st_bind_td ?_ | with_reducible refine st_bind_to ?_
    | with_reducible refine st_frz_d ?_ | with_reducible refine st_frz_own ?_ | with_reducible refine st_frz_top ?_ | with_reducible refine st_frz_own_ll ?_ | with_reducible refine st_frz_own_dc ?_ | with_reducible refine st_frz_top_ll ?_ | with_reducible refine st_frz_top_dc ?_ | with_reducible refine st_frzAll_nil ?_ | with_reducible refine st_frzAll_cons ?_
    | with_reducible refine st_if ?_ | with_reducible refine st_B ?_ | with_reducible refine st_and ?_ | with_reducible refine st_or ?_ | with_reducible refine st_not ?_ | with_reducible refine st_yes ?_ | with_reducible refine st_isB ?_ | with_reducible refine st_t ?_ | with_reducible refine st_f ?_ | ((with_reducible refine st_iteT ?_ ?_); decide) | ((with_reducible refine st_iteF ?_ ?_); decide)
    | with_reducible refine st_nt ?_ | with_reducible refine st_nf ?_
    | with_reducible refine st_ret ?_ | with_reducible refine st_next ?_ | with_reducible refine st_retN ?_ | with_reducible refine st_drop ?_ | with_reducible refine st_break ?_ | with_reducible refine st_raise ?_
    | with_reducible refine st_out_d ?_ | with_reducible refine st_out_own ?_ | with_reducible refine st_out_top ?_
    | with_reducible refine st_tup ?_ | with_reducible refine st_lst ?_ | with_reducible refine st_un ?_ | with_reducible refine st_blt ?_ | with_reducible refine st_lookAll_nil ?_ | with_reducible refine st_lookAll_cons ?_
    | with_reducible refine st_unp ?_ | with_reducible refine st_par ?_ | with_reducible refine st_setIx ?_ | with_reducible refine st_onL ?_ | with_reducible refine st_for ?_ | with_reducible refine st_wipe_nil ?_ | with_reducible refine st_wipe_cons ?_ | with_reducible refine st_andV ?_ | with_reducible refine st_orV ?_ | with_reducible refine st_notV ?_ | with_reducible refine st_ifE ?_ | with_reducible refine st_chain ?_
    | with_reducible refine st_sl ?_ | with_reducible refine st_noPart ?_ | with_reducible refine st_part ?_ | with_reducible refine st_lc ?_ | with_reducible refine st_lm ?_
    | with_reducible refine st_seqI ?_ | with_reducible refine st_range1 ?_ | with_reducible refine st_range2 ?_ | with_reducible refine st_enum ?_ | with_reducible refine st_zip ?_
    | with_reducible refine st_nm ?_ | with_reducible refine st_tp ?_ | with_reducible refine st_tps_nil ?_ | with_reducible refine st_tps_cons ?_
    | ((with_reducible refine st_mod_i ?_ ?_); (first | decide | omega)) | ((with_reducible refine st_fdiv_i ?_ ?_); decide) 
    | with_reducible refine st_add_i ?_ | with_reducible refine st_sub_i ?_ | with_reducible refine st_neg_i ?_ | with_reducible refine st_eq_i ?_ | with_reducible refine st_ne_i ?_ | with_reducible refine st_eq_str ?_ | with_reducible refine st_ne_str ?_ | with_reducible refine st_eq_b ?_ | with_reducible refine st_ne_b ?_ | with_reducible refine st_lt_i ?_ | with_reducible refine st_le_i ?_ | with_reducible refine st_gt_i ?_ | with_reducible refine st_ge_i ?_
    | with_reducible refine st_is_n ?_ | with_reducible refine st_isNot_n ?_ | with_reducible refine st_is_b ?_ | with_reducible refine st_isNot_b ?_ | ((with_reducible refine st_ix_l (x := ?_) ?_ ?_); rotate_left; eq_refl) | ((with_reducible refine st_ix_t (x := ?_) ?_ ?_); rotate_left; eq_refl) | with_reducible refine st_len_l ?_ | with_reducible refine st_len_t ?_ | with_reducible refine st_len_lit ?_
    | with_reducible refine st_abs ?_ | with_reducible refine st_max2 ?_ | with_reducible refine st_min2 ?_ | with_reducible refine st_int_i ?_ | with_reducible refine st_int_b ?_ | with_reducible refine st_tuple_l ?_ | with_reducible refine st_tuple_t ?_ | with_reducible refine st_list_l ?_ | with_reducible refine st_list_t ?_ | ((with_reducible refine st_isT ?_ ?_); eq_refl) | ((with_reducible refine st_isTT ?_ ?_); eq_refl) | ((with_reducible refine st_isTF ?_ ?_); eq_refl) | ((with_reducible refine st_isNT ?_ ?_); eq_refl) | ((with_reducible refine st_isNF ?_ ?_); eq_refl)
    | with_reducible refine st_rg1 ?_ | with_reducible refine st_rg2 ?_ | with_reducible refine st_enumL ?_ | with_reducible refine st_zipS ?_ | with_reducible refine st_rev_l ?_ | with_reducible refine st_rev_t ?_
    | with_reducible refine st_ne_ll ?_ | with_reducible refine st_ne_lit ?_ | with_reducible refine st_in_pt ?_ | with_reducible refine st_in_pl ?_
    | with_reducible refine st_sl_l ?_ | with_reducible refine st_sl_t ?_
    | ((with_reducible refine st_iteLen ?_ ?_); eq_refl) | ((with_reducible refine st_iteNLen ?_ ?_); eq_refl) | with_reducible refine st_iteBB ?_ | ((with_reducible refine st_iteND ?_ ?_); omega) | ((with_reducible refine st_iteNF ?_ ?_); omega)
    | ((with_reducible refine st_iteT (decide_eq_true ?_) ?_); omega) | ((with_reducible refine st_iteF (decide_eq_false ?_) ?_); omega))
local macro_rules
  | `(tactic| sizeOf_list_dec) => `(tactic| with_reducible refine stepTo ?_)
local macro_rules
  | `(tactic| array_get_dec) => `(tactic| repeat sizeOf_list_dec)
local macro_rules
  | `(tactic| sizeOf_list_dec) => `(tactic| first | with_reducible refine st_ix2_l ?_ | with_reducible refine st_ix2_t ?_ | with_reducible refine st_ix2_s ?_ | with_reducible refine st_ix2_lit ?_ | with_reducible refine st_inK_l ?_ | with_reducible refine st_inK_t ?_ | with_reducible refine st_ninK_l ?_ | with_reducible refine st_ninK_t ?_ | with_reducible refine st_setD ?_ | with_reducible refine st_onDc ?_ | with_reducible refine st_dget2 ?_ | with_reducible refine st_emT ?_ | with_reducible refine st_emD ?_ | with_reducible refine st_disp1 ?_ | with_reducible refine st_disp1k ?_ | with_reducible refine st_range3 ?_ | with_reducible refine st_bor ?_ | with_reducible refine st_borT ?_ | with_reducible refine st_bindT_nil ?_ | with_reducible refine st_bindT_d ?_ | with_reducible refine st_bindT_o ?_ | with_reducible refine st_bindT_t ?_ | with_reducible refine st_toPs_nil ?_ | with_reducible refine st_toPs_d ?_ | with_reducible refine st_toPs_l ?_ | with_reducible refine st_toPs_dc ?_ | with_reducible refine st_tupO ?_ | with_reducible refine st_var_tp ?_ | with_reducible refine st_frz_own_tp ?_ | with_reducible refine st_frz_top_tp ?_ | with_reducible refine st_lmP ?_ | ((with_reducible refine st_onP ?_ ?_); eq_refl) | with_reducible refine st_flat_b ?_ | with_reducible refine st_flat_i ?_)
local macro_rules
  | `(tactic| sizeOf_list_dec) => `(tactic| with_reducible refine is_whole_ok fun _ => ?_)
local macro_rules
  | `(tactic| sizeOf_list_dec) => `(tactic| first | with_reducible refine st_in_il ?_ | with_reducible refine st_in_it ?_ | with_reducible refine st_notIn_il ?_ | with_reducible refine st_notIn_it ?_ | with_reducible refine st_ne_ll ?_)
theorem fam_map {α β : Type} (f : α → β) {ps : List (List Int × α)} (h : FamK ps) : FamK (ps.map fun p => (p.1, f p.2)) := by
  refine ⟨?_, fun p hp => ?_⟩
  · rw [List.map_map]
    exact h.1
  · obtain ⟨q, hq, rfl⟩ := List.mem_map.mp hp
    exact h.2 q hq
theorem fam_keys {α : Type} {ps : List (List Int × α)} (h1 : (ps.map (·.1)).Nodup) (h2 : ∀ k ∈ ps.map (·.1), k ∈ fam) : FamK ps := ⟨h1, fun p hp => h2 _ (List.mem_map.mpr ⟨p, hp, rfl⟩)⟩
theorem keys_put {α : Type} {ps : List (List Int × α)} {k : List Int} {x : α} : (putL ps k x).map (·.1) = if k ∈ ps.map (·.1) then ps.map (·.1) else ps.map (·.1) ++ [k] := by
  unfold putL
  by_cases c : (lkT ps k).isSome = true
  · rw [if_pos c, if_pos (lkT_iff.mp c), List.map_map]
    refine List.map_congr_left fun p _ => ?_
    simp only [Function.comp]
    split <;> rfl
  · rw [if_neg c, if_neg (fun q => c (lkT_iff.mpr q)), List.map_append]
    rfl
theorem fam_put {α : Type} {ps : List (List Int × α)} {k : List Int} {x : α} (h : FamK ps) (hk : k ∈ fam) : FamK (putL ps k x) := by
  have h2 : ∀ q ∈ ps.map (·.1), q ∈ fam := fun q hq => by
    obtain ⟨p, hp, rfl⟩ := List.mem_map.mp hq
    exact h.2 p hp
  refine fam_keys ?_ ?_
  · rw [keys_put]
    split
    · exact h.1
    · rename_i c
      exact List.nodup_append.mpr ⟨h.1, by simp, fun a ha b hb e => c (by rw [← List.mem_singleton.mp hb, ← e]; exact ha)⟩
  · rw [keys_put]
    split
    · exact h2
    · intro q hq
      rcases List.mem_append.mp hq with hq | hq
      · exact h2 q hq
      · rw [List.mem_singleton.mp hq]
        exact hk
theorem fam_del {α : Type} {ps : List (List Int × α)} {k : List Int} (h : FamK ps) : FamK (delL ps k) := by
  refine ⟨?_, fun p hp => h.2 p (List.mem_filter.mp hp).1⟩
  have := h.1
  unfold delL
  rw [List.nodup_iff_pairwise_ne, List.pairwise_map] at this ⊢
  exact List.Pairwise.filter _ this
theorem del_map {α β : Type} (f : α → β) {ps : List (List Int × α)} {k : List Int} : delL (ps.map fun p => (p.1, f p.2)) k = (delL ps k).map fun p => (p.1, f p.2) := by
  unfold delL
  rw [List.filter_map]
  rfl
theorem st_dictI_c {kvs : List (List Int × Int)} {k : R → Prop} (hp : FamK kvs) (h : k (.own (.dc (dcI kvs)))) : bDictT [.dict (dcI kvs)] k := st_dictT_c (fam_map _ hp) h
theorem st_dictI_p {α : Type} {l : List α} {f : α → List Int} {v : α → Int} {k : R → Prop} (hn : (l.map f).Nodup) (h : k (.own (.dc (dcI (l.map fun a => (f a, v a)))))) : bDictT [.list (l.map fun a => .tuple [tupI (f a), .int (v a)])] k := by
  refine st_dictT_p (f := f) (v := fun a => .int (v a)) hn ?_
  unfold dcI at h
  rw [List.map_map] at h
  exact h
theorem st_popI {kvs : List (List Int × Int)} {i : Nat} {s s' : S} {Q : R → S → Prop} {k : List Int} {x : Int} [e : Get s i (.dc (dcI kvs))] [q : Put s i (.dc (dcI (delL kvs k))) s'] (hx : lkT kvs k = some x) (h : Q (.d (.int x)) s') : popK i (tupI k) s Q := by
  have q' : Put s i (.dc (dcT (delL (kvs.map fun p => (p.1, PyData.int p.2)) k))) s' := ⟨by rw [del_map PyData.int]; exact q.e⟩
  exact st_popK (x := .int x) (by rw [lkT_map PyData.int, hx]; rfl) h
theorem dcI_get {kvs : List (List Int × Int)} {k : List Int} {Q : Option D → Prop} (q : Q ((lkT kvs k).map .int)) : dGet (dcI kvs) (tupI k) Q := dcT_get (by rw [lkT_map PyData.int]; exact q)
theorem afloors_right_ok {n : Int} {ts : List (Int × Int)} {kvs : List (List Int × Int)} (g : Good n ts) (fk : FamK kvs) {X : XF} {Q : R → S → Prop} (h : ∀ fin, Q (.d (.bool true)) fin) : m__law_afloors_right [.d (webD n ts), .d (.dict (dcI kvs))] X Q := by
  have n0 := g.n0
  have n10 := g.n10
  unfold m__law_afloors_right b__law_afloors_right
  refine st_sem rfl ?_
  array_get_dec
  refine st_dictI_c fk ?_
  array_get_dec
  refine aare_floors_x g fun fin => ?_
  array_get_dec
  refine st_dget3 ?_
  array_get_dec
  refine ⟨by unfold L2.RgOk; omega, ?_⟩
  array_get_dec
  rw [rangeD_map]
  refine ⟨rfl, ?_⟩
  refine dcI_get (k := rangeI n.toNat) ?_
  rw [show ((lkT kvs (rangeI n.toNat)).map PyData.int).getD (.int 0) = .int (lkI kvs (rangeI n.toNat)) from by
    unfold lkI
    cases lkT kvs (rangeI n.toNat) <;> rfl]
  array_get_dec
  refine loop_list PyData.int (fun l s => ∃ w : SV, (w = .dc (dcI kvs) ∨ w = .d (.dict (dcI kvs))) ∧ s = [.d (webD n ts), .d (.dict (dcI kvs)), w, .d (.bool (dec (FloorsG n ts kvs))), .d (.int (lkI kvs (rangeI n.toNat))), .no, .no]) ?_ ?_ [lkI kvs (rangeI n.toNat), lkI kvs (rangeI n.toNat) + 1, lkI kvs (rangeI n.toNat) - 1, -5, 100000000000000000000] _ ⟨_, .inl rfl, rfl⟩
  · rintro s ⟨w, _, rfl⟩
    array_get_dec
    exact h _
  · rintro m l s k ⟨w, hw, rfl⟩ hk
    have nxt : k [.d (webD n ts), .d (.dict (dcI kvs)), .d (.dict (dcI kvs)), .d (.bool (dec (FloorsG n ts kvs))), .d (.int (lkI kvs (rangeI n.toNat))), .no, .no] := hk _ ⟨_, .inr rfl, rfl⟩
    refine st_nm ?_
    refine st_join (fun s => s = [.d (webD n ts), .d (.dict (dcI kvs)), .d (.dict (dcI kvs)), .d (.bool (dec (FloorsG n ts kvs))), .d (.int (lkI kvs (rangeI n.toNat))), .d (.int m), .d (.bool (dec (FloorsG n ts kvs ∧ m ≤ lkI kvs (rangeI n.toNat))))]) ?_ (fun kq hkq => by
      rcases hw with rfl | rfl
      all_goals
        array_get_dec
        refine are_floors_x g ?_
        array_get_dec
        exact hkq _ rfl)
    rintro s rfl
    array_get_dec
    by_cases c : FloorsG n ts kvs
    · rw [dec_t c, show dec (FloorsG n ts kvs ∧ m ≤ lkI kvs (rangeI n.toNat)) = decide (lkI kvs (rangeI n.toNat) ≥ m) from by
        apply Bool.eq_iff_iff.mpr
        rw [dec_iff, decide_eq_true_eq]
        exact ⟨fun q => q.2, fun q => ⟨c, q⟩⟩]
      array_get_dec
      refine st_neT ?_
      array_get_dec
      rw [dec_t c] at nxt
      exact nxt
    · rw [dec_f c, dec_f (fun q => c q.1)]
      array_get_dec
      refine st_neT ?_
      array_get_dec
      rw [dec_f c] at nxt
      exact nxt
end Lk23
namespace Lk23
open PySem Hs
local macro_rules
  | `(tactic| sizeOf_list_dec) => `(tactic| first
    | with_reducible refine st_seq ?_ | with_reducible refine st_asg ?_ | with_reducible refine st_cons ?_ | with_reducible refine st_nil ?_ | with_reducible refine st_C ?_ | with_reducible refine st_op ?_
    | with_reducible refine st_var_d ?_ | with_reducible refine st_var_l ?_ | with_reducible refine st_var_ll ?_ | with_reducible refine st_var_dc ?_
    | with_reducible refine st_look_d ?_ | with_reducible refine st_look_top ?_ | with_reducible refine st_look_top_d ?_ | with_reducible refine st_look_own ?_ | with_reducible refine st_look_top_dc ?_ | with_reducible refine st_look_own_dc ?_ | with_reducible refine st_put_d ?_ | with_reducible refine st_put_own ?_ | with_reducible refine st_put_top_l ?_ | with_reducible refine st_put_top_ll ?_ | with_reducible refine st_put_top_dc ?_
    | ((with_reducible refine st_callF ?_ ?_); eq_refl) | with_reducible refine st_call ?_ | with_reducible refine st_putK_nil ?_ | with_reducible refine st_putK_t ?_ | with_reducible refine st_putK_f ?_ | with_reducible refine st_putK_td ?_ | with_reducible refine st_putK_to ?_ | with_reducible refine st_bind_nil ?_ | with_reducible refine st_bind_f ?_ | with_reducible refine st_bind_tt ?_ | with_reducible refine st_bind_td ?_ | with_reducible refine st_bind_to ?_
    | with_reducible refine st_frz_d ?_ | with_reducible refine st_frz_own ?_ | with_reducible refine st_frz_top ?_ | with_reducible refine st_frz_own_ll ?_ | with_reducible refine st_frz_own_dc ?_ | with_reducible refine st_frz_top_ll ?_ | with_reducible refine st_frz_top_dc ?_ | with_reducible refine st_frzAll_nil ?_ | with_reducible refine st_frzAll_cons ?_
    | with_reducible refine st_if ?_ | with_reducible refine st_B ?_ | with_reducible refine st_and ?_ | with_reducible refine st_or ?_ | with_reducible refine st_not ?_ | with_reducible refine st_yes ?_ | with_reducible refine st_isB ?_ | with_reducible refine st_t ?_ | with_reducible refine st_f ?_ | ((with_reducible refine st_iteT ?_ ?_); decide) | ((with_reducible refine st_iteF ?_ ?_); decide)
    | with_reducible refine st_nt ?_ | with_reducible refine st_nf ?_
    | with_reducible refine st_ret ?_ | with_reducible refine st_next ?_ | with_reducible refine st_retN ?_ | with_reducible refine st_drop ?_ | with_reducible refine st_break ?_ | with_reducible refine st_raise ?_
    | with_reducible refine st_out_d ?_ | with_reducible refine st_out_own ?_ | with_reducible refine st_out_top ?_
    | with_reducible refine st_tup ?_ | with_reducible refine st_lst ?_ | with_reducible refine st_un ?_ | with_reducible refine st_blt ?_ | with_reducible refine st_lookAll_nil ?_ | with_reducible refine st_lookAll_cons ?_
    | with_reducible refine st_unp ?_ | with_reducible refine st_par ?_ | with_reducible refine st_setIx ?_ | with_reducible refine st_onL ?_ | with_reducible refine st_for ?_ | with_reducible refine st_wipe_nil ?_ | with_reducible refine st_wipe_cons ?_ | with_reducible refine st_andV ?_ | with_reducible refine st_orV ?_ | with_reducible refine st_notV ?_ | with_reducible refine st_ifE ?_ | with_reducible refine st_chain ?_
    | with_reducible refine st_sl ?_ | with_reducible refine st_noPart ?_ | with_reducible refine st_part ?_ | with_reducible refine st_lc ?_ | with_reducible refine st_lm ?_
    | with_reducible refine st_seqI ?_ | with_reducible refine st_range1 ?_ | with_reducible refine st_range2 ?_ | with_reducible refine st_enum ?_ | with_reducible refine st_zip ?_
    | with_reducible refine st_nm ?_ | with_reducible refine st_tp ?_ | with_reducible refine st_tps_nil ?_ | with_reducible refine st_tps_cons ?_
    | ((with_reducible refine st_mod_i ?_ ?_); (first | decide | omega)) | ((with_reducible refine st_fdiv_i ?_ ?_); decide) 
    | with_reducible refine st_add_i ?_ | with_reducible refine st_sub_i ?_ | with_reducible refine st_neg_i ?_ | with_reducible refine st_eq_i ?_ | with_reducible refine st_ne_i ?_ | with_reducible refine st_eq_str ?_ | with_reducible refine st_ne_str ?_ | with_reducible refine st_eq_b ?_ | with_reducible refine st_ne_b ?_ | with_reducible refine st_lt_i ?_ | with_reducible refine st_le_i ?_ | with_reducible refine st_gt_i ?_ | with_reducible refine st_ge_i ?_
    | with_reducible refine st_is_n ?_ | with_reducible refine st_isNot_n ?_ | with_reducible refine st_is_b ?_ | with_reducible refine st_isNot_b ?_ | ((with_reducible refine st_ix_l (x := ?_) ?_ ?_); rotate_left; eq_refl) | ((with_reducible refine st_ix_t (x := ?_) ?_ ?_); rotate_left; eq_refl) | with_reducible refine st_len_l ?_ | with_reducible refine st_len_t ?_ | with_reducible refine st_len_lit ?_
    | with_reducible refine st_abs ?_ | with_reducible refine st_max2 ?_ | with_reducible refine st_min2 ?_ | with_reducible refine st_int_i ?_ | with_reducible refine st_int_b ?_ | with_reducible refine st_tuple_l ?_ | with_reducible refine st_tuple_t ?_ | with_reducible refine st_list_l ?_ | with_reducible refine st_list_t ?_ | ((with_reducible refine st_isT ?_ ?_); eq_refl) | ((with_reducible refine st_isTT ?_ ?_); eq_refl) | ((with_reducible refine st_isTF ?_ ?_); eq_refl) | ((with_reducible refine st_isNT ?_ ?_); eq_refl) | ((with_reducible refine st_isNF ?_ ?_); eq_refl)
    | with_reducible refine st_rg1 ?_ | with_reducible refine st_rg2 ?_ | with_reducible refine st_enumL ?_ | with_reducible refine st_zipS ?_ | with_reducible refine st_rev_l ?_ | with_reducible refine st_rev_t ?_
    | with_reducible refine st_ne_ll ?_ | with_reducible refine st_ne_lit ?_ | with_reducible refine st_in_pt ?_ | with_reducible refine st_in_pl ?_
    | with_reducible refine st_sl_l ?_ | with_reducible refine st_sl_t ?_
    | ((with_reducible refine st_iteLen ?_ ?_); eq_refl) | ((with_reducible refine st_iteNLen ?_ ?_); eq_refl) | with_reducible refine st_iteBB ?_ | ((with_reducible refine st_iteND ?_ ?_); omega) | ((with_reducible refine st_iteNF ?_ ?_); omega)
    | ((with_reducible refine st_iteT (decide_eq_true ?_) ?_); omega) | ((with_reducible refine st_iteF (decide_eq_false ?_) ?_); omega))
local macro_rules
  | `(tactic| sizeOf_list_dec) => `(tactic| with_reducible refine stepTo ?_)
local macro_rules
  | `(tactic| array_get_dec) => `(tactic| repeat sizeOf_list_dec)
local macro_rules
  | `(tactic| sizeOf_list_dec) => `(tactic| first | with_reducible refine st_ix2_l ?_ | with_reducible refine st_ix2_t ?_ | with_reducible refine st_ix2_s ?_ | with_reducible refine st_ix2_lit ?_ | with_reducible refine st_inK_l ?_ | with_reducible refine st_inK_t ?_ | with_reducible refine st_ninK_l ?_ | with_reducible refine st_ninK_t ?_ | with_reducible refine st_setD ?_ | with_reducible refine st_onDc ?_ | with_reducible refine st_dget2 ?_ | with_reducible refine st_emT ?_ | with_reducible refine st_emD ?_ | with_reducible refine st_disp1 ?_ | with_reducible refine st_disp1k ?_ | with_reducible refine st_range3 ?_ | with_reducible refine st_bor ?_ | with_reducible refine st_borT ?_ | with_reducible refine st_bindT_nil ?_ | with_reducible refine st_bindT_d ?_ | with_reducible refine st_bindT_o ?_ | with_reducible refine st_bindT_t ?_ | with_reducible refine st_toPs_nil ?_ | with_reducible refine st_toPs_d ?_ | with_reducible refine st_toPs_l ?_ | with_reducible refine st_toPs_dc ?_ | with_reducible refine st_tupO ?_ | with_reducible refine st_var_tp ?_ | with_reducible refine st_frz_own_tp ?_ | with_reducible refine st_frz_top_tp ?_ | with_reducible refine st_lmP ?_ | ((with_reducible refine st_onP ?_ ?_); eq_refl) | with_reducible refine st_flat_b ?_ | with_reducible refine st_flat_i ?_)
local macro_rules
  | `(tactic| sizeOf_list_dec) => `(tactic| with_reducible refine is_whole_ok fun _ => ?_)
local macro_rules
  | `(tactic| sizeOf_list_dec) => `(tactic| first | with_reducible refine st_in_il ?_ | with_reducible refine st_in_it ?_ | with_reducible refine st_notIn_il ?_ | with_reducible refine st_notIn_it ?_ | with_reducible refine st_ne_ll ?_)
theorem sub_fam {n : Int} (h0 : 0 ≤ n) (h4 : n ≤ 4) : ∀ S ∈ sb n.toNat, S ∈ fam ∧ S.length ≤ 10 := fun S hS => by
  have s1 := sb_iff.mp hS
  refine ⟨List.mem_append_left _ (sb_iff.mpr ⟨s1.up, fun z hz => ?_⟩), s1.few (by omega)⟩
  have := s1.lt z hz
  omega
theorem odd_fam {n : Int} (h0 : 0 ≤ n) (h4 : n ≤ 4) {i : Int} (i0 : 0 ≤ i) (i3 : i < 3) : atL [[n], [1, 0], [0, 0]] i ∈ fam := by
  have hi : i = 0 ∨ i = 1 ∨ i = 2 := by omega
  have hn : n = 0 ∨ n = 1 ∨ n = 2 ∨ n = 3 ∨ n = 4 := by omega
  rcases hi with rfl | rfl | rfl
  · rcases hn with rfl | rfl | rfl | rfl | rfl <;> decide
  · show [1, 0] ∈ fam; decide
  · show [0, 0] ∈ fam; decide
theorem flo_keys {ts : List (Int × Int)} (L : List (List Int)) : (flo ts L).map (·.1) = L := by
  unfold flo
  rw [List.map_map]
  exact List.map_id L
theorem law_holds : ∀ ns : List Int, ns.length ≤ 63 → (∀ z ∈ ns, Builtin.Int.intBits z ≤ 1048576) → m_law [.d (litD ns)] (fun _ _ => False) (fun r _ => r = .d (.bool true)) := by
  intro ns hns _
  unfold m_law b_law
  refine st_sem rfl ?_
  array_get_dec
  refine ⟨by unfold lim62; omega, by unfold lim62; omega, ?_⟩
  array_get_dec
  refine loop_range (lo := 0) (fun i s => s = [.d (litD ns), .no, .no, .no, .no, .no, .no, .no, .no, .no, .no, .no]) (fun s e => ?_) (fun i s k h0 hlt e hk => ?_) rfl
  · subst e
    array_get_dec
    rfl
  subst e
  obtain ⟨st, rfl⟩ := Int.eq_ofNat_of_zero_le h0
  refine st_nm ?_
  refine st_join (fun s => ∃ z : Int, s = [.d (litD ns), .d (.int st), .l [.int z], .no, .no, .no, .no, .no, .no, .no, .no, .no]) ?_ (fun kq hkq => by
    array_get_dec
    refine tape_ok (by omega) fun z fin => ?_
    array_get_dec
    exact hkq _ ⟨z, rfl⟩)
  rintro s ⟨z, rfl⟩
  refine st_join (fun s => ∃ (z n : Int) (ts : List (Int × Int)), (n ≤ 4 ∧ Good n ts) ∧ s = [.d (litD ns), .d (.int st), .l [.int z], .d (webD n ts), .no, .no, .no, .no, .no, .no, .no, .no]) ?_ (fun kq hkq => by
    array_get_dec
    refine aweb_ok (by decide) (by decide) fun n ts z' hn g => ?_
    array_get_dec
    exact hkq _ ⟨z', n, ts, ⟨hn, g⟩, rfl⟩)
  clear z
  rintro s ⟨z, n, ts, ⟨n4, g⟩, rfl⟩
  have n0 := g.n0
  refine st_join (fun s => ∃ (hs : List Int) (kvs : List (List Int × Int)) (c : Int), (hs.length = n.toNat ∧ kvs.map (·.1) = sb n.toNat) ∧ s = [.d (litD ns), .d (.int st), .l [.int z], .d (webD n ts), .d (.int c), .d (.tuple (hs.map .int)), .d (.dict (dcI kvs)), .no, .no, .no, .no, .no]) ?_ (fun kq hkq => by
    array_get_dec
    refine fewest_ok g fun hs fin hl _ => ?_
    array_get_dec
    exact hkq _ ⟨hs, _, _, ⟨hl, flo_keys _⟩, rfl⟩)
  rintro s ⟨hs, kvs, c, ⟨hl, hk0⟩, rfl⟩
  have sf := sub_fam n0 n4
  have nd : (kvs.map (·.1)).Nodup := by rw [hk0]; exact sb_nodup _
  have fk : FamK kvs := fam_keys nd fun q hq => (sf q (by rw [← hk0]; exact hq)).1
  have kl : ∀ p ∈ kvs, p.1.length ≤ 10 := fun p hp => (sf p.1 (by rw [← hk0]; exact List.mem_map.mpr ⟨p, hp, rfl⟩)).2
  have kc : kvs.length ≤ 1024 := by
    have := congrArg List.length hk0
    rw [List.length_map] at this
    rw [this]
    exact sb_small (by omega)
  have lk : ∀ p ∈ kvs, ∃ x, lkT kvs p.1 = some x := fun p hp => ⟨_, lk_some (List.mem_map.mpr ⟨p, hp, rfl⟩)⟩
  refine st_join (fun s => ∃ (z : Int), s = [.d (litD ns), .d (.int st), .l [.int z], .d (webD n ts), .d (.int c), .d (.tuple (hs.map .int)), .d (.dict (dcI kvs)), .no, .no, .no, .no, .no]) ?_ (fun kq hkq => by
    array_get_dec
    refine ahues_right_ok g hl fun z' => ?_
    array_get_dec
    exact hkq _ ⟨z', rfl⟩)
  clear z
  rintro s ⟨z, rfl⟩
  generalize hW : webD n ts = W at *
  have szk : ∀ p ∈ kvs.map (fun p => (p.1, PyData.int p.2)), p.1.length ≤ 16777216 := fun p hp => by
    obtain ⟨q, hq, rfl⟩ := List.mem_map.mp hp
    have := kl q hq
    show q.1.length ≤ 16777216
    omega
  refine st_join (fun s => s = [.d (litD ns), .d (.int st), .l [.int z], .d W, .d (.int c), .d (.tuple (hs.map .int)), .d (.dict (dcI kvs)), .l ([kvs, kvs.map fun p => (p.1, 0), []].map fun q => .dict (dcI q)), .no, .no, .no, .no]) ?_ (fun kq hkq => by
    array_get_dec
    refine st_lcT szk (by rw [List.length_map]; omega) ?_
    rw [List.map_map]
    array_get_dec
    refine comp_list (fun p => tupI p.1) (fun p => .tuple [tupI p.1, .int 0]) kvs (fun p hp kT hkT => ?_) ?_
    · array_get_dec
      exact hkT
    array_get_dec
    refine st_dictI_p (f := fun p : List Int × Int => p.1) (v := fun _ => 0) nd ?_
    array_get_dec
    exact hkq _ rfl)
  rintro s rfl
  have ds0 : ∀ q ∈ [kvs, kvs.map fun p => (p.1, 0), []], FamK q := fun q hq => by
    rcases List.mem_cons.mp hq with rfl | hq
    · exact fk
    rcases List.mem_cons.mp hq with rfl | hq
    · exact fam_map (fun _ => 0) fk
    rw [List.mem_singleton.mp hq]
    exact ⟨List.nodup_nil, fun p hp => (nomatch hp)⟩
  have dl0 : [kvs, kvs.map fun p => (p.1, 0), []].length = 3 := rfl
  generalize [kvs, kvs.map fun p => (p.1, 0), []] = ds at ds0 dl0
  refine st_join (fun s => ∃ ds : List (List (List Int × Int)), ((∀ q ∈ ds, FamK q) ∧ ds.length = 4) ∧ s = [.d (litD ns), .d (.int st), .l [.int z], .d W, .d (.int c), .d (.tuple (hs.map .int)), .d (.dict (dcI kvs)), .l (ds.map fun q => .dict (dcI q)), .no, .no, .no, .no]) ?_ (fun kq hkq => by
    array_get_dec
    refine st_lcT szk (by rw [List.length_map]; omega) ?_
    rw [List.map_map]
    array_get_dec
    refine comp_list (fun p => tupI p.1) (fun p => .tuple [tupI p.1, .int (lkI kvs p.1 + 1)]) kvs (fun p hp kT hkT => ?_) ?_
    · array_get_dec
      refine dcI_ix (lk_some (List.mem_map.mpr ⟨p, hp, rfl⟩)) ?_
      array_get_dec
      exact hkT
    array_get_dec
    refine st_dictI_p (f := fun p : List Int × Int => p.1) (v := fun p => lkI kvs p.1 + 1) nd ?_
    array_get_dec
    refine st_append (by rw [List.length_map]; show _ < 16777216; omega) ?_
    array_get_dec
    have := hkq _ ⟨ds ++ [kvs.map fun p => (p.1, lkI kvs p.1 + 1)], ⟨fun q hq => by
      rcases List.mem_append.mp hq with hq | hq
      · exact ds0 q hq
      · rw [List.mem_singleton.mp hq]
        refine fam_keys ?_ ?_
        · rw [List.map_map]; exact nd
        · rw [List.map_map]
          exact fun q hq => by
            obtain ⟨p, hp, rfl⟩ := List.mem_map.mp hq
            exact fk.2 p hp, by rw [List.length_append]; simp [dl0]⟩, rfl⟩
    rw [List.map_append] at this
    exact this)
  clear ds0 dl0 ds
  rintro s ⟨ds, ⟨ds0, dl0⟩, rfl⟩
  refine st_join (fun s => ∃ (z : Int) (ds : List (List (List Int × Int))), ((∀ q ∈ ds, FamK q) ∧ ds.length = 5) ∧ s = [.d (litD ns), .d (.int st), .l [.int z], .d W, .d (.int c), .d (.tuple (hs.map .int)), .d (.dict (dcI kvs)), .l (ds.map fun q => .dict (dcI q)), .no, .no, .no, .no]) ?_ (fun kq hkq => by
    array_get_dec
    refine st_lcT szk (by rw [List.length_map]; omega) ?_
    rw [List.map_map]
    array_get_dec
    refine comp_inv (fun xs acc s => ∃ (z : Int) (r d : List (List Int × Int)), (d.map (·.1) ++ r.map (·.1) = kvs.map (·.1)) ∧ xs = r.map ((fun p => tupI p.1) ∘ fun p => (p.1, PyData.int p.2)) ∧ acc = d.map (fun p => .tuple [tupI p.1, .int p.2]) ∧ s = [.d (litD ns), .d (.int st), .l [.int z], .d W, .d (.int c), .d (.tuple (hs.map .int)), .d (.dict (dcI kvs)), .l (ds.map fun q => .dict (dcI q)), .no, .no, .no, .no]) ?_ ?_ _ _ _ ⟨z, kvs, [], rfl, rfl, rfl, rfl⟩
    · rintro acc s ⟨z, r, d, e1, e2, rfl, rfl⟩
      cases r with
      | cons _ _ => cases e2
      | nil =>
        rw [List.map_nil, List.append_nil] at e1
        array_get_dec
        refine st_dictI_p (f := fun p : List Int × Int => p.1) (v := fun p => p.2) (by rw [e1]; exact nd) ?_
        array_get_dec
        refine st_append (by rw [List.length_map]; show _ < 16777216; omega) ?_
        array_get_dec
        have := hkq _ ⟨z, ds ++ [d.map fun p => (p.1, p.2)], ⟨fun q hq => by
          rcases List.mem_append.mp hq with hq | hq
          · exact ds0 q hq
          · rw [List.mem_singleton.mp hq]
            refine fam_keys ?_ ?_
            · rw [List.map_map]
              show (d.map (·.1)).Nodup
              rw [e1]; exact nd
            · rw [List.map_map]
              show ∀ k ∈ d.map (·.1), k ∈ fam
              rw [e1]
              exact fun q hq => by
                obtain ⟨p, hp, rfl⟩ := List.mem_map.mp hq
                exact fk.2 p hp, by rw [List.length_append]; simp [dl0]⟩, rfl⟩
        rw [List.map_append] at this
        exact this
    · rintro x xs acc s kT kF ⟨z, r, d, e1, e2, rfl, rfl⟩ hT _
      cases r with
      | nil => cases e2
      | cons p r =>
        rw [List.map_cons] at e2
        injection e2 with e2 e3
        subst e2 e3
        have nxt : ∀ z (v : Int), kT (.tuple [tupI p.1, .int v]) [.d (litD ns), .d (.int st), .l [.int z], .d W, .d (.int c), .d (.tuple (hs.map .int)), .d (.dict (dcI kvs)), .l (ds.map fun q => .dict (dcI q)), .no, .no, .no, .no] := fun z v => hT _ _ ⟨z, r, d ++ [(p.1, v)], by rw [← e1]; simp, rfl, by simp, rfl⟩
        show gNm 8 (tupI p.1) _ _
        array_get_dec
        refine digit_ok (by decide) (by decide) ?_
        array_get_dec
        exact nxt _ _)
  clear ds0 dl0 ds z
  rintro s ⟨z, ds, ⟨ds0, dl0⟩, rfl⟩
  have more : ∀ {ds : List (List (List Int × Int))} {q : List (List Int × Int)}, (∀ q ∈ ds, FamK q) → FamK q → ∀ p ∈ ds ++ [q], FamK p := fun {ds q} h1 h2 p hp => by
    rcases List.mem_append.mp hp with hp | hp
    · exact h1 p hp
    · rw [List.mem_singleton.mp hp]; exact h2
  have famP : ∀ p ∈ kvs, p.1 ∈ fam := fk.2
  refine st_join (fun s => ∃ ds : List (List (List Int × Int)), ((∀ q ∈ ds, FamK q) ∧ ds.length ≤ 5000) ∧ s = [.d (litD ns), .d (.int st), .l [.int z], .d W, .d (.int c), .d (.tuple (hs.map .int)), .d (.dict (dcI kvs)), .l (ds.map fun q => .dict (dcI q)), .no, .no, .no, .no]) ?_ (fun kq hkq => ?_)
  rotate_left
  · refine st_forT szk ?_
    rw [List.map_map]
    array_get_dec
    refine loop_list ((fun p => tupI p.1) ∘ fun p => (p.1, PyData.int p.2)) (fun l s => ∃ ds : List (List (List Int × Int)), ((∀ q ∈ ds, FamK q) ∧ ds.length + 4 * l.length ≤ 4101 ∧ ∀ p ∈ l, p ∈ kvs) ∧ s = [.d (litD ns), .d (.int st), .l [.int z], .d W, .d (.int c), .d (.tuple (hs.map .int)), .d (.dict (dcI kvs)), .l (ds.map fun q => .dict (dcI q)), .no, .no, .no, .no]) ?_ ?_ _ _ ⟨ds, ⟨ds0, by omega, fun p hp => hp⟩, rfl⟩
    · rintro s ⟨ds, ⟨ds0, dl, _⟩, rfl⟩
      exact hkq _ ⟨ds, ⟨ds0, by omega⟩, rfl⟩
    clear ds0 dl0 ds
    rintro p l s k2 ⟨ds, ⟨ds0, dl, hp⟩, rfl⟩ hk2
    rw [List.length_cons] at dl
    have pm := hp p List.mem_cons_self
    have pk : p.1 ∈ kvs.map (·.1) := List.mem_map.mpr ⟨p, pm, rfl⟩
    show gNm 8 (tupI p.1) _ _
    refine st_nm ?_
    refine st_join (fun s => ∃ ds : List (List (List Int × Int)), ((∀ q ∈ ds, FamK q) ∧ ds.length + 4 * l.length ≤ 4099) ∧ s = [.d (litD ns), .d (.int st), .l [.int z], .d W, .d (.int c), .d (.tuple (hs.map .int)), .d (.dict (dcI kvs)), .l (ds.map fun q => .dict (dcI q)), .d (tupI p.1), .no, .no, .no]) ?_ (fun k3 hk3 => by
      array_get_dec
      refine dcI_ix (lk_some pk) ?_
      array_get_dec
      refine dcI_ix (lk_some pk) ?_
      array_get_dec
      refine loop_list PyData.int (fun l2 s => ∃ ds : List (List (List Int × Int)), ((∀ q ∈ ds, FamK q) ∧ ds.length + l2.length + 4 * l.length ≤ 4099) ∧ s = [.d (litD ns), .d (.int st), .l [.int z], .d W, .d (.int c), .d (.tuple (hs.map .int)), .d (.dict (dcI kvs)), .l (ds.map fun q => .dict (dcI q)), .d (tupI p.1), .no, .no, .no]) ?_ ?_ [lkI kvs p.1 + 1, lkI kvs p.1 - 1] _ ⟨ds, ⟨ds0, by simp; omega⟩, rfl⟩
      · rintro s ⟨ds, ⟨ds0, dl⟩, rfl⟩
        exact hk3 _ ⟨ds, ⟨ds0, by simpa using dl⟩, rfl⟩
      · rintro x l2 s k4 ⟨ds, ⟨ds0, dl⟩, rfl⟩ hk4
        rw [List.length_cons] at dl
        array_get_dec
        refine st_dictI_c fk ?_
        array_get_dec
        refine dcI_put (by omega) ?_
        array_get_dec
        refine st_append (by rw [List.length_map]; show _ < 16777216; omega) ?_
        array_get_dec
        have := hk4 _ ⟨ds ++ [putL kvs p.1 x], ⟨more ds0 (fam_put fk (famP p pm)), by rw [List.length_append, List.length_singleton]; omega⟩, rfl⟩
        rw [List.map_append] at this
        exact this)
    clear ds0 dl ds
    rintro s ⟨ds, ⟨ds0, dl⟩, rfl⟩
    refine st_join (fun s => s = [.d (litD ns), .d (.int st), .l [.int z], .d W, .d (.int c), .d (.tuple (hs.map .int)), .d (.dict (dcI kvs)), .l (ds.map fun q => .dict (dcI q)), .d (tupI p.1), .no, .dc (dcI kvs), .no]) ?_ (fun k3 hk3 => by
      array_get_dec
      refine st_dictI_c fk ?_
      array_get_dec
      exact hk3 _ rfl)
    rintro s rfl
    refine st_join (fun s => s = [.d (litD ns), .d (.int st), .l [.int z], .d W, .d (.int c), .d (.tuple (hs.map .int)), .d (.dict (dcI kvs)), .l (ds.map fun q => .dict (dcI q)), .d (tupI p.1), .no, .dc (dcI (delL kvs p.1)), .no]) ?_ (fun k3 hk3 => by
      array_get_dec
      refine st_popD ?_
      array_get_dec
      refine st_popI (lk_some pk) ?_
      array_get_dec
      exact hk3 _ rfl)
    rintro s rfl
    have fd := fam_del (k := p.1) fk
    have ld : (delL kvs p.1).length ≤ kvs.length := List.length_filter_le _ _
    generalize delL kvs p.1 = kd at fd ld
    refine st_join (fun s => s = [.d (litD ns), .d (.int st), .l [.int z], .d W, .d (.int c), .d (.tuple (hs.map .int)), .d (.dict (dcI kvs)), .l ((ds ++ [kd]).map fun q => .dict (dcI q)), .d (tupI p.1), .no, .d (.dict (dcI kd)), .no]) ?_ (fun k3 hk3 => by
      array_get_dec
      refine st_append (by rw [List.length_map]; show _ < 16777216; omega) ?_
      array_get_dec
      have := hk3 _ rfl
      rw [List.map_append] at this
      exact this)
    rintro s rfl
    refine st_join (fun s => s = [.d (litD ns), .d (.int st), .l [.int z], .d W, .d (.int c), .d (.tuple (hs.map .int)), .d (.dict (dcI kvs)), .l ((ds ++ [kd]).map fun q => .dict (dcI q)), .d (tupI p.1), .no, .dc (dcI kd), .no]) ?_ (fun k3 hk3 => by
      array_get_dec
      refine st_dictI_c fd ?_
      array_get_dec
      exact hk3 _ rfl)
    rintro s rfl
    refine st_join (fun s => ∃ ke, FamK ke ∧ s = [.d (litD ns), .d (.int st), .l [.int z], .d W, .d (.int c), .d (.tuple (hs.map .int)), .d (.dict (dcI kvs)), .l ((ds ++ [kd]).map fun q => .dict (dcI q)), .d (tupI p.1), .no, .dc (dcI ke), .no]) ?_ (fun k3 hk3 => by
      array_get_dec
      refine dcI_ix (lk_some pk) ?_
      rw [← hW, show webD n ts = PyData.tuple [.int n, .tuple (ts.map pairD)] from rfl] at hk3 ⊢
      rw [show tupI p.1 = PyData.tuple (p.1.map .int) from rfl] at hk3 ⊢
      array_get_dec
      rw [List.length_map]
      have i0 : 0 ≤ ((p.1.length : Nat) : Int) % 3 := Int.emod_nonneg _ (by decide)
      have i3 : ((p.1.length : Nat) : Int) % 3 < 3 := Int.emod_lt_of_pos _ (by decide)
      refine st_ix_l (xs := ([[n], [1, 0], [0, 0]] : List (List Int)).map tupI) (atL_ok i0 (by simpa using i3)) ?_
      array_get_dec
      refine dcI_put (by omega) ?_
      array_get_dec
      exact hk3 _ ⟨putL kd _ _, fam_put fd (odd_fam n0 n4 i0 i3), rfl⟩)
    rintro s ⟨ke, fe, rfl⟩
    array_get_dec
    refine st_append (by rw [List.length_map, List.length_append]; show _ + 1 < 16777216; omega) ?_
    array_get_dec
    have := hk2 _ ⟨(ds ++ [kd]) ++ [ke], ⟨more (more ds0 fd) fe, by rw [List.length_append, List.length_append, List.length_singleton, List.length_singleton]; omega, fun q hq => hp q (List.mem_cons_of_mem _ hq)⟩, rfl⟩
    rw [List.map_append] at this
    exact this
  clear ds0 dl0 ds
  rintro s ⟨ds, ⟨ds0, dl⟩, rfl⟩
  array_get_dec
  refine st_dictI_c fk ?_
  array_get_dec
  refine dcI_put (k := [1, 0]) (by omega) ?_
  array_get_dec
  refine st_add_l (by rw [List.length_map]; show _ + 1 ≤ 16777216; omega) ?_
  array_get_dec
  have f10 : FamK (putL kvs [1, 0] 0) := fam_put fk (by decide)
  generalize putL kvs [1, 0] 0 = kl at f10
  have fall := more ds0 f10
  rw [show (ds.map fun q => PyData.dict (dcI q)) ++ [.dict (dcI kl)] = (ds ++ [kl]).map fun q => .dict (dcI q) from by rw [List.map_append]; rfl]
  generalize ds ++ [kl] = es at fall
  subst hW
  refine loop_list (fun q => PyData.dict (dcI q)) (fun l s => (∀ q ∈ l, FamK q) ∧ ∃ v : SV, s = [.d (litD ns), .d (.int st), .l [.int z], .d (webD n ts), .d (.int c), .d (.tuple (hs.map .int)), .d (.dict (dcI kvs)), .l (ds.map fun q => .dict (dcI q)), .no, .no, v, .no]) ?_ ?_ _ _ ⟨fall, _, rfl⟩
  · rintro s ⟨_, v, rfl⟩
    array_get_dec
    exact hk _ rfl
  · rintro q l s k2 ⟨hq, v, rfl⟩ hk2
    have fq := hq q List.mem_cons_self
    array_get_dec
    refine afloors_right_ok g fq fun fin => ?_
    array_get_dec
    exact hk2 _ ⟨fun q hq' => hq q (List.mem_cons_of_mem _ hq'), _, rfl⟩
end Lk23
open PySem PySem.W PySem.Calls PyProof.Rows
set_option maxHeartbeats 0 in
theorem PySem.Challenge.cw_hueshare_k23_hues_and_floors_looked_at_holds : PySem.Challenge.rw_hueshare_k23_hues_and_floors_looked_at.Holds := by
  w_on; o_law
  refine HandSHeadRun.head_any (r := OpenLaw.row PySem.Challenge.rw_hueshare_k23_hues_and_floors_looked_at) (q := view (OpenLaw.row PySem.Challenge.rw_hueshare_k23_hues_and_floors_looked_at).prog [34]) (H := Lk23.hk) (ob := Lk23.ob) (M := 9000) (loose := Lk23.nm) (d := HandSHeadRun.topDef (OpenLaw.row PySem.Challenge.rw_hueshare_k23_hues_and_floors_looked_at).prog 34) (kwd := []) Lk23.ob_eq
    (by kernel_rfl) (fun s => by kernel_rfl) Lk23.run (by kernel_rfl) (by kernel_rfl) (by kernel_rfl) (by rfl) (by first | assumption | decide +kernel) (by decide +kernel) ⟨rfl, rfl, rfl, rfl, rfl, by decide +kernel⟩ ?hw ?hc
  case hw => w_witness2
  case hc =>
    refine Hs.walk_ofBE (l := PySem.Challenge.rw_hueshare_k23_hues_and_floors_looked_at) (n := 63) (k := 9) (ms := [false]) (sem := Lk23.m_law) rfl (by decide) (by kernel_rfl) ⟨rfl, by decide, by decide⟩ ?F Lk23.law_holds
    intro w mg fa h Y G hmg0
    obtain ⟨K, KX, c⟩ := Y
    have hmg : mg ("law" : PySem.Str) = some (.ref fa) := by
      have e : (HandSHeadRun.topDef (OpenLaw.row PySem.Challenge.rw_hueshare_k23_hues_and_floors_looked_at).prog 34).name = ("law" : PySem.Str) := by kernel_rfl
      rw [← e]
      exact hmg0
    obtain ⟨fd, hb, hF⟩ := Lk23.facts (P := (PySem.Challenge.rw_hueshare_k23_hues_and_floors_looked_at).prog) (w := w) KX G hmg c
    exact ⟨K, fd, KX, hb, hF⟩
