import PyProof.Rows.All
import Wide.All
import OpenK.AllK
import Wide.FinOn
import HandS.ForMost
import HandS.ForExc
import HandS.CallSlots
import HandS.Deep
import HandS.TupAny
import HandS.TupMul
import HandS.TupLe
import HandS.Wide
import HandS.SortInts
import HandS.SortRule
import HandS.Conv
import HandS.IsInst
import HandS.Style
import HandS.SortOrd
import HandS.More
import HandS.HeadHook2
import HandS.EndBits
import HandS.HeadEnd
import HandS.HeadHook1
import HandS.Head0
import HandS.Head1
import HandS.Head2
import HandS.ExcOwn
import HandS.Iter
import HandS.Zip
import HandS.Rev
import KE.GoesEnum
import PyProof.Rows.SortShellAny
import PyProof.ReprRoads
import HandS.SetFor
import HandS.Strs
import HandS.ExcIs
import HandS.ExcValue
import PyProof.SetRoads
import HandS.Codes
import HandS.ReplaceLit
import PySem.Challenge.RW_hueshare_k55_texts_that_write_no_web
set_option Elab.async false
set_option linter.all false
set_option maxRecDepth 100000
set_option maxHeartbeats 4000000
set_option exponentiation.threshold 100000
namespace Hs
open PySem PySem.Spec PyProof.Rows L2
/-- how a def is looked at by names -/
abbrev dOf (x : Str) (st : Stmt) : He.DefD := ⟨(x, none), x, x, defArgs st, defBody st, defScope st, [], []⟩
def excB (K : PySem.W.Frag) (D : Addr) : Bool :=
  decide (PySem.W.findIn K (.ref D) "__getattribute__" = some (some (.builtin "BaseException.__getattribute__"))) && (decide (PySem.W.findIn K (.ref D) "__getattr__" = some none) && (decide (PySem.W.subIn K (.ref D) (.type "BaseException") = some true) && (PySem.W.hasDictIn K D &&
    (decide (PySem.W.findIn K (.ref D) "__class__" = some (some (.builtin "object.__class__"))) && (decide (PySem.W.specialIn K (.builtin "object.__class__") "__get__" = some (some (.builtin "getset_descriptor.__get__"))) && (decide (PySem.W.takesIn K (.builtin "object.__class__") = some true) &&
      decide (PySem.W.mroIn K D (.type "object") = some true)))))))
/-- what isinstance says of the errors of the classes named, asked for an own class, for a built-in one -/
inductive ExQ where
  | own (y : Str) (tb : List (Str × Bool))
  | ty (T : String) (tb : List (Str × Bool))
def ExQ.row (K : PySem.W.Frag) (cv : Value) (tb : List (Str × Bool)) : Bool := tb.all fun p => excB K (He.ga K p.1) && decide (PySem.W.kitOne K (.ref (He.ga K p.1)) cv = some p.2)
def ExQ.ok (K : PySem.W.Frag) : ExQ → Bool
  | .own y tb => ExQ.row K (.ref (He.ga K y)) tb
  | .ty T tb => ExQ.row K (.type T) tb
abbrev AlQ : Type := He.AlD × Bool
def obsQ (n : Nat) (fa : List He.Fa) (fn : List He.DefD) (exl : List ExQ) (g : Addr → Option Obj) : AlQ := (He.obsDG n fa fn g, exl.all fun e => e.ok (He.frG g (He.asD g n)))
def hookQ (n : Nat) (fa : List He.Fa) (fn : List He.DefD) (exl : List ExQ) : PySem.W.Hook where
  α := AlQ
  obs := fun s => obsQ n fa fn exl s.heap.get?
  val := fun _ => (He.valD fn, true)
  says := fun _ h => ∃ K : PySem.W.Frag, K.In h ∧ He.SaysD fa fn K ∧ (exl.all fun e => e.ok K) = true
  of := fun _ _ e => ⟨_, He.frG_in, congrArg Prod.fst e, congrArg Prod.snd e⟩
  keeps := fun _ _ _ ⟨K, hK, c⟩ k => ⟨K, PySem.W.Frag.In.keeps hK k, c⟩
theorem obsQ_eq {n : Nat} {fa : List He.Fa} {fn : List He.DefD} {exl : List ExQ} {g : Addr → Option Obj} {s : Shared} (h : ∀ a, g a = s.heap.get? a) : obsQ n fa fn exl g = (hookQ n fa fn exl).obs s := by
  have e : g = s.heap.get? := funext h
  rw [e] <;> rfl
end Hs
namespace Lk55
open PySem PySem.Spec PyProof.Rows L2 Hs
def topS (i : Nat) : Stmt := PySem.Challenge.pw_hueshare_k55_texts_that_write_no_web.main.body.getD i (.Pass ⟨0, 0, 0, 0⟩)
abbrev s__law_e_each_change : Stmt := topS 40
abbrev s__law_e_text : Stmt := topS 35
abbrev s__law_e_stir : Stmt := topS 30
abbrev s__law_e_dip : Stmt := topS 31
abbrev s__law_e_web_of : Stmt := topS 32
abbrev s__law_e_web : Stmt := topS 33
abbrev s__law_e_bent : Stmt := topS 41
abbrev s__law_e_kind : Stmt := topS 34
abbrev s_is_figures : Stmt := topS 23
abbrev s_read_number : Stmt := topS 26
abbrev s_is_whole : Stmt := topS 13
abbrev s_is_below : Stmt := topS 14
abbrev s_is_rising : Stmt := topS 16
abbrev s_is_tie : Stmt := topS 15
abbrev s_are_ties : Stmt := topS 17
abbrev s_is_web : Stmt := topS 18
abbrev s_read_tie : Stmt := topS 27
abbrev s_read_web : Stmt := topS 28
abbrev s__law_e_told : Stmt := topS 38
abbrev s__law_e_number : Stmt := topS 36
abbrev s__law_e_due : Stmt := topS 37
abbrev s_need_web : Stmt := topS 19
abbrev s_show_tie : Stmt := topS 24
abbrev s_show_web : Stmt := topS 25
abbrev s__law_e_shown : Stmt := topS 39
abbrev s_law : Stmt := topS 42
def fa0 : List He.Fa := [.glo "_law_e_each_change", .glo "_law_e_text", .glo "_law_e_stir", .glo "_law_e_dip", .glo "_law_e_web_of", .glo "_law_e_web", .glo "_law_e_bent", .glo "_law_e_kind", .glo "is_figures", .glo "read_number", .glo "is_whole", .glo "is_below", .glo "is_rising", .glo "is_tie", .glo "are_ties", .glo "is_web", .glo "read_tie", .glo "read_web", .glo "_law_e_told", .glo "_law_e_number", .glo "_law_e_due", .glo "need_web", .glo "show_tie", .glo "show_web", .glo "_law_e_shown", .glo "law", .glo "NoText", .exc "NoText", .glo "NoWeb", .exc "NoWeb"]
def fa1 : List He.Fa := [.glo "NoPlace", .glo "NoNumber", .glo "NoFold", .glo "NoTie", .glo "NoRow", .glo "TooMany", .glo "NoWants", .glo "HueError", .exm "NoText" "HueError" true, .exm "NoWeb" "HueError" true, .int "MOST_FIGURES" 6, .str "FIGURES" "0123456789", .int "MOST_PLACES" 10, .free "len", .free "range", .free "str", .free "tuple", .free "isinstance", .free "ValueError", .free "all", .free "int", .free "bool", .free "any"]
def fa : List He.Fa := fa0 ++ fa1
def exl0 : List ExQ := [(.own "NoPlace" [("NoText", false), ("NoWeb", false)]), (.own "NoNumber" [("NoText", false), ("NoWeb", false)]), (.own "NoFold" [("NoText", false), ("NoWeb", false)]), (.own "NoTie" [("NoText", false), ("NoWeb", false)]), (.own "NoText" [("NoText", true), ("NoWeb", false)]), (.own "NoRow" [("NoText", false), ("NoWeb", false)]), (.own "TooMany" [("NoText", false), ("NoWeb", false)]), (.own "NoWeb" [("NoText", false), ("NoWeb", true)]), (.own "NoWants" [("NoText", false), ("NoWeb", false)]), (.ty "ValueError" [("NoText", true), ("NoWeb", true)])]
def exl : List ExQ := exl0
def fn0 : List He.DefD := [dOf "_law_e_each_change" s__law_e_each_change, dOf "_law_e_text" s__law_e_text, dOf "_law_e_stir" s__law_e_stir, dOf "_law_e_dip" s__law_e_dip, dOf "_law_e_web_of" s__law_e_web_of, dOf "_law_e_web" s__law_e_web, dOf "_law_e_bent" s__law_e_bent, dOf "_law_e_kind" s__law_e_kind, dOf "is_figures" s_is_figures, dOf "read_number" s_read_number, dOf "is_whole" s_is_whole, dOf "is_below" s_is_below, dOf "is_rising" s_is_rising, dOf "is_tie" s_is_tie, dOf "are_ties" s_are_ties, dOf "is_web" s_is_web, dOf "read_tie" s_read_tie, dOf "read_web" s_read_web, dOf "_law_e_told" s__law_e_told, dOf "_law_e_number" s__law_e_number, dOf "_law_e_due" s__law_e_due, dOf "need_web" s_need_web, dOf "show_tie" s_show_tie, dOf "show_web" s_show_web, dOf "_law_e_shown" s__law_e_shown, dOf "law" s_law]
def fn : List He.DefD := fn0
def nm0 : List PySem.Str := ["HueError", "NoWeb", "NoPlace", "NoTie", "NoWants", "NoFold", "NoNumber", "TooMany", "NoText", "NoRow", "is_whole", "is_below", "is_tie", "is_rising", "are_ties", "is_web", "need_web", "is_figures", "show_tie", "show_web", "read_number", "read_tie", "read_web", "_law_e_stir", "_law_e_dip", "_law_e_web_of", "_law_e_web", "_law_e_kind", "_law_e_text", "_law_e_number"]
def nm1 : List PySem.Str := ["_law_e_due", "_law_e_told", "_law_e_shown", "_law_e_each_change", "_law_e_bent", "MOST_PLACES", "FIGURES", "MOST_FIGURES"]
def nm : List PySem.Str := nm0 ++ nm1
abbrev Rw : PySem.W.OpenRow := PySem.W.OpenLaw.row PySem.Challenge.rw_hueshare_k55_texts_that_write_no_web
abbrev hk : PySem.W.Hook := hookQ 5 fa fn exl
def ob (s : PySem.W.SharedT) : AlQ := obsQ 5 fa fn exl (HandSHeadRun.getT s)
theorem ob_eq (s : PySem.W.SharedT) : ob s = hk.obs s.abs := obsQ_eq (HandSHeadRun.getT_eq s)
set_option maxHeartbeats 0 in
theorem run (w : World) : HandSHeadRun.RunEq Rw (PySem.W.view Rw.prog [42]) hk ob 9000 nm w := by
  intro os
  kernel_rfl
end Lk55
namespace Hs
open PySem PySem.Spec PyProof.Rows L2
abbrev D := PyData
abbrev St := L2.St
/-- what a slot holds: nothing known; a value that nobody changes; a list (rows of lists, a dict) that this slot alone holds; an object of a class with its fields -/
inductive PV where
  | d (x : D) | l (xs : List D) | dc (kvs : List (D × D)) | o (c : Str) (fs : List (Str × PV))
inductive SV where
  | no | d (x : D) | l (xs : List D) | ll (xss : List (List D)) | dc (kvs : List (D × D)) | ob (c : Str) (fs : List (Str × PV)) | tp (ws : List PV) | lo (ws : List PV)
/-- what an expression gives: a value; something new; what a slot holds -/
inductive R where
  | d (x : D) | own (v : SV) | top (i : Nat)
abbrev S := List SV
def keyD : Key → D
  | .inl i => .int i
  | .inr x => .str x
def keysD (ks : List Key) : D := .tuple (ks.map keyD)
/-- a list of ints that may be the text's own (nobody changes it): told by a dict of one key that no dict has -/
def litD (ns : List Int) : D := .dict [(.none, .list (ns.map .int))]
/-- a caught error of the class of that name -/
def excD (c : Str) : D := .dict [(.none, .str c)]
/-- an object of the class of that name that nobody changes -/
def obD (c : Str) (kvs : List (D × D)) : D := .dict ((.none, .bool true) :: (.none, .str c) :: kvs)
/-- an object's fields as a dict's entries -/
def obK (fs : List (Str × V)) : List (Key × V) := fs.map fun p => (.inr p.1, p.2)
/-- .. on the heap: an error of the class at C, at a -/
def ExV (C a : Addr) : HO := .ext fun h => ∃ (oe : Obj) (vs : Array Value), h.get? a = some oe ∧ Zc (.ref C) none oe ∧ oe.data = .fields vs
mutual
inductive Rp (K : PySem.W.Frag) (H : Hp) : V → PyData → Prop
  | non : Rp K H .non .none
  | bl (b : Bool) : Rp K H (.bl b) (.bool b)
  | int (i : Int) : Rp K H (.int i) (.int i)
  | str (x : Str) : Rp K H (.str x) (.str x)
  | lst {a : Addr} {xs : List V} {ds : List PyData} : Rd H a (.lst xs) → xs.length ≤ sizeLine → RpAll K H xs ds → Rp K H (.ref a) (.list ds)
  | tup {a : Addr} {xs : List V} {ds : List PyData} : H a = some (.tup xs) → xs.length ≤ sizeLine → RpAll K H xs ds → Rp K H (.ref a) (.tuple ds)
  | dcK {a : Addr} {ks : List (Key × V)} {kvs : List (PyData × PyData)} : Rd H a (.dK ks) → RpK K H ks kvs → Rp K H (.ref a) (.dict kvs)
  | dcT {a : Addr} {ks : List (List Key × V)} {kvs : List (PyData × PyData)} : H a = some (.dT ks) → RpT K H ks kvs → Rp K H (.ref a) (.dict ((.none, .none) :: kvs))
  | lit {a : Addr} {ns : List Int} : SqL K H a (ns.map V.int) → ns.length ≤ sizeLine → Rp K H (.ref a) (litD ns)
  | exc {a : Addr} {c : Str} : H a = some (ExV (He.ga K c) a) → Rp K H (.ref a) (excD c)
  | obj {a dx : Addr} {c : Str} {fs : List (Str × V)} {kvs : List (PyData × PyData)} : H a = some (.ins (He.ga K c) dx fs) → H dx = some (.own a) → RpK K H (obK fs) kvs → Rp K H (.ref a) (.dict ((.none, .bool true) :: (.none, .str c) :: kvs))
inductive RpAll (K : PySem.W.Frag) (H : Hp) : List V → List PyData → Prop
  | nil : RpAll K H [] []
  | cons {v : V} {vs : List V} {d : PyData} {ds : List PyData} : Rp K H v d → RpAll K H vs ds → RpAll K H (v :: vs) (d :: ds)
inductive RpK (K : PySem.W.Frag) (H : Hp) : List (Key × V) → List (PyData × PyData) → Prop
  | nil : RpK K H [] []
  | cons {k : Key} {v : V} {ks : List (Key × V)} {d : PyData} {kvs : List (PyData × PyData)} : Rp K H v d → RpK K H ks kvs → RpK K H ((k, v) :: ks) ((keyD k, d) :: kvs)
inductive RpT (K : PySem.W.Frag) (H : Hp) : List (List Key × V) → List (PyData × PyData) → Prop
  | nil : RpT K H [] []
  | cons {k : List Key} {v : V} {ks : List (List Key × V)} {d : PyData} {kvs : List (PyData × PyData)} : Rp K H v d → RpT K H ks kvs → RpT K H ((k, v) :: ks) ((keysD k, d) :: kvs)
end
theorem same_sqT {K : PySem.W.Frag} {H H' : Hp} {a : Addr} {xs : List V} (e : Same H H') (h : SqT K H a xs) : SqT K H' a xs := by
  rcases h with (h | ⟨o, h⟩) | h
  · exact .inl (.inl (e _ _ h))
  · exact .inl (.inr ⟨o, e _ _ h⟩)
  · exact .inr h
theorem tupSq {K : PySem.W.Frag} {H : Hp} {a : Addr} {xs : List V} (h : H a = some (.tup xs)) : SqT K H a xs := .inl (.inl h)
theorem same_rd {H H' : Hp} {a : Addr} {u : HO} (e : Same H H') (h : Rd H a u) : Rd H' a u := by
  rcases h with h | ⟨o, h⟩
  · exact .inl (e _ _ h)
  · exact .inr ⟨o, e _ _ h⟩
section
variable {K : PySem.W.Frag} {H H' : Hp}
mutual
theorem Rp.mono (e : Same H H') : ∀ (d : PyData) (v : V), Rp K H v d → Rp K H' v d
  | .none, _, .non => .non
  | .bool _, _, .bl b => .bl b
  | .int _, _, .int i => .int i
  | .str _, _, .str x => .str x
  | .list ds, _, .lst h z a => .lst (same_rd e h) z (RpAll.mono e ds _ a)
  | .tuple ds, _, .tup h z a => .tup (e _ _ h) z (RpAll.mono e ds _ a)
  | .dict kvs, _, .dcK h a => .dcK (same_rd e h) (RpK.mono e kvs _ a)
  | .dict ((.none, .none) :: kvs), _, .dcT h a => .dcT (e _ _ h) (RpT.mono e kvs _ a)
  | _, _, .lit h z => .lit (e.seq h) z
  | _, _, .exc h => .exc (e _ _ h)
  | .dict ((.none, .bool true) :: (.none, .str _) :: kvs), _, .obj h1 h2 a => .obj (e _ _ h1) (e _ _ h2) (RpK.mono e kvs _ a)
theorem RpAll.mono (e : Same H H') : ∀ (ds : List PyData) (vs : List V), RpAll K H vs ds → RpAll K H' vs ds
  | [], _, .nil => .nil
  | d :: ds, _, .cons h a => .cons (Rp.mono e d _ h) (RpAll.mono e ds _ a)
theorem RpK.mono (e : Same H H') : ∀ (kvs : List (PyData × PyData)) (ks : List (Key × V)), RpK K H ks kvs → RpK K H' ks kvs
  | [], _, .nil => .nil
  | (_, d) :: kvs, _, .cons h a => .cons (Rp.mono e d _ h) (RpK.mono e kvs _ a)
theorem RpT.mono (e : Same H H') : ∀ (kvs : List (PyData × PyData)) (ks : List (List Key × V)), RpT K H ks kvs → RpT K H' ks kvs
  | [], _, .nil => .nil
  | (_, d) :: kvs, _, .cons h a => .cons (Rp.mono e d _ h) (RpT.mono e kvs _ a)
end
theorem Rp.same {v : V} {d : D} (r : Rp K H v d) (e : Same H H') : Rp K H' v d := Rp.mono e d v r
theorem RpAll.same {vs : List V} {ds : List D} (r : RpAll K H vs ds) (e : Same H H') : RpAll K H' vs ds := RpAll.mono e ds vs r
theorem RpK.same {ks : List (Key × V)} {kvs : List (D × D)} (r : RpK K H ks kvs) (e : Same H H') : RpK K H' ks kvs := RpK.mono e kvs ks r
theorem RpT.same {ks : List (List Key × V)} {kvs : List (D × D)} (r : RpT K H ks kvs) (e : Same H H') : RpT K H' ks kvs := RpT.mono e kvs ks r
theorem RpAll.length : ∀ {vs : List V} {ds : List D}, RpAll K H vs ds → vs.length = ds.length
  | _, _, .nil => rfl
  | _, _, .cons _ a => congrArg (· + 1) (RpAll.length a)
theorem RpAll.append : ∀ {vs ws : List V} {ds es : List D}, RpAll K H vs ds → RpAll K H ws es → RpAll K H (vs ++ ws) (ds ++ es)
  | _, _, _, _, .nil, b => b
  | _, _, _, _, .cons h a, b => .cons h (RpAll.append a b)
theorem RpAll.get : ∀ {vs : List V} {ds : List D} {i : Nat} {d : D}, RpAll K H vs ds → ds[i]? = some d → ∃ v, vs[i]? = some v ∧ Rp K H v d
  | _, _, _, _, .nil, e => by simp at e
  | _, _, 0, _, .cons h _, e => by
    cases e
    exact ⟨_, rfl, h⟩
  | _, _, i + 1, _, .cons _ a, e => RpAll.get (i := i) a e
theorem RpAll.getV : ∀ {vs : List V} {ds : List D} {i : Nat} {v : V}, RpAll K H vs ds → vs[i]? = some v → ∃ d, ds[i]? = some d ∧ Rp K H v d
  | _, _, _, _, .nil, e => by simp at e
  | _, _, 0, _, .cons h _, e => by
    cases e
    exact ⟨_, rfl, h⟩
  | _, _, i + 1, _, .cons _ a, e => RpAll.getV (i := i) a e
theorem RpAll.take : ∀ {vs : List V} {ds : List D} (n : Nat), RpAll K H vs ds → RpAll K H (vs.take n) (ds.take n)
  | _, _, 0, _ => .nil
  | _, _, _ + 1, .nil => .nil
  | _, _, n + 1, .cons h a => .cons h (RpAll.take n a)
theorem RpAll.drop : ∀ {vs : List V} {ds : List D} (n : Nat), RpAll K H vs ds → RpAll K H (vs.drop n) (ds.drop n)
  | _, _, 0, a => a
  | _, _, _ + 1, .nil => .nil
  | _, _, n + 1, .cons _ a => RpAll.drop n a
theorem RpAll.set {v : V} {d : D} (r : Rp K H v d) : ∀ {vs : List V} {ds : List D} (i : Nat), RpAll K H vs ds → RpAll K H (vs.set i v) (ds.set i d)
  | _, _, _, .nil => .nil
  | _, _, 0, .cons _ a => .cons r a
  | _, _, i + 1, .cons h a => .cons h (RpAll.set r i a)
theorem RpAll.ints : ∀ {vs : List V} {ns : List Int}, RpAll K H vs (ns.map PyData.int) → vs = ns.map V.int
  | _, [], .nil => rfl
  | _, n :: ns, .cons (.int _) a => by rw [RpAll.ints a]; rfl
theorem RpAll.of_ints : ∀ ns : List Int, RpAll K H (ns.map V.int) (ns.map PyData.int)
  | [] => .nil
  | n :: ns => .cons (.int n) (RpAll.of_ints ns)
theorem RpAll.bools : ∀ {vs : List V} {ns : List Bool}, RpAll K H vs (ns.map PyData.bool) → vs = ns.map V.bl
  | _, [], .nil => rfl
  | _, n :: ns, .cons (.bl _) a => by rw [RpAll.bools a]; rfl
theorem RpAll.strs : ∀ {vs : List V} {ns : List Str}, RpAll K H vs (ns.map PyData.str) → vs = ns.map V.str
  | _, [], .nil => rfl
  | _, n :: ns, .cons (.str _) a => by rw [RpAll.strs a]; rfl
end
/-- rows of lists, each held by no other -/
inductive LL (K : PySem.W.Frag) (Z H : Hp) : List Addr → List (List D) → Prop
  | nil : LL K Z H [] []
  | cons {q : Addr} {vs : List V} {qs : List Addr} {xs : List D} {xss : List (List D)} : H q = some (.lst vs) → vs.length ≤ sizeLine → RpAll K Z vs xs → LL K Z H qs xss → LL K Z H (q :: qs) (xs :: xss)
def DcAt (K : PySem.W.Frag) (Z H : Hp) (p : Addr) (kvs : List (D × D)) : Prop :=
  (∃ ks, H p = some (.dK ks) ∧ RpK K Z ks kvs) ∨ ∃ ks kvs', kvs = (.none, .none) :: kvs' ∧ H p = some (.dT ks) ∧ RpT K Z ks kvs'
mutual
/-- the parts of a tuple (a list, an object) that one slot alone holds -/
def PartAt (K : PySem.W.Frag) (Z H : Hp) : V → PV → List Addr → Prop
  | v, .d x, F => F = [] ∧ Rp K Z v x
  | v, .l xs, F => ∃ p vs, v = .ref p ∧ F = [p] ∧ H p = some (.lst vs) ∧ vs.length ≤ sizeLine ∧ RpAll K Z vs xs
  | v, .dc kvs, F => ∃ p, v = .ref p ∧ F = [p] ∧ DcAt K Z H p kvs
  | v, .o c fs, F => ∃ p dx vs G, v = .ref p ∧ F = p :: dx :: G ∧ H p = some (.ins (He.ga K c) dx ((fs.map (·.1)).zip vs)) ∧ H dx = some (.own p) ∧ PsAt K Z H vs fs G
def PsAt (K : PySem.W.Frag) (Z H : Hp) : List V → List (Str × PV) → List Addr → Prop
  | [], [], F => F = []
  | v :: vs, (_, w) :: fs, F => ∃ F1 F2, F = F1 ++ F2 ∧ PartAt K Z H v w F1 ∧ PsAt K Z H vs fs F2
  | _, _, _ => False
end
inductive TpAt (K : PySem.W.Frag) (Z H : Hp) : List V → List PV → List Addr → Prop
  | nil : TpAt K Z H [] [] []
  | cons {v : V} {w : PV} {F G : List Addr} {vs : List V} {ws : List PV} : PartAt K Z H v w F → TpAt K Z H vs ws G → TpAt K Z H (v :: vs) (w :: ws) (F ++ G)
mutual
def PV.asD : PV → D
  | .d x => x
  | .l xs => .list xs
  | .dc kvs => .dict kvs
  | .o c fs => obD c (PV.asDs fs)
def PV.asDs : List (Str × PV) → List (D × D)
  | [] => []
  | (n, w) :: fs => (.str n, PV.asD w) :: PV.asDs fs
end
theorem PsAt.tp {K : PySem.W.Frag} {Z H : Hp} : ∀ {fs : List (Str × PV)} {vs : List V} {F : List Addr}, PsAt K Z H vs fs F → TpAt K Z H vs (fs.map (·.2)) F
  | [], [], _, h => by rw [show _ = [] from h]; exact .nil
  | (n, w) :: fs, v :: vs, _, h => by
    obtain ⟨F1, F2, e, h1, h2⟩ := h
    rw [e]; exact .cons h1 (PsAt.tp h2)
  | [], _ :: _, _, h => h.elim
  | _ :: _, [], _, h => h.elim
/-- how a slot's content stands; F: the addresses that it alone holds -/
def SlotAt (K : PySem.W.Frag) (Z H : Hp) (v : Option V) : SV → List Addr → Prop
  | .no, F => F = []
  | .d x, F => F = [] ∧ ∃ u, v = some u ∧ Rp K Z u x
  | .l xs, F => ∃ p vs, v = some (.ref p) ∧ F = [p] ∧ H p = some (.lst vs) ∧ vs.length ≤ sizeLine ∧ RpAll K Z vs xs
  | .ll xss, F => ∃ p qs, v = some (.ref p) ∧ F = p :: qs ∧ H p = some (.lst (qs.map V.ref)) ∧ qs.length ≤ sizeLine ∧ LL K Z H qs xss
  | .dc kvs, F => ∃ p, v = some (.ref p) ∧ F = [p] ∧ DcAt K Z H p kvs
  | .ob c fs, F => ∃ p dx vs G, v = some (.ref p) ∧ F = p :: dx :: G ∧ H p = some (.ins (He.ga K c) dx ((fs.map (·.1)).zip vs)) ∧ H dx = some (.own p) ∧ TpAt K Z H vs (fs.map (·.2)) G
  | .tp ws, F => ∃ p vs, v = some (.ref p) ∧ Z p = some (.tup vs) ∧ vs.length ≤ sizeLine ∧ TpAt K Z H vs ws F
  | .lo ws, F => ∃ p vs G, v = some (.ref p) ∧ F = p :: G ∧ H p = some (.lst vs) ∧ vs.length ≤ sizeLine ∧ TpAt K Z H vs ws G
section
variable {K : PySem.W.Frag} {Z Z' H H' : Hp}
theorem LL.mono (e : Same Z Z') : ∀ {qs : List Addr} {xss : List (List D)}, (∀ a ∈ qs, ∀ o, H a = some o → H' a = some o) → LL K Z H qs xss → LL K Z' H' qs xss
  | _, _, _, .nil => .nil
  | _, _, k, .cons h z a r => .cons (k _ List.mem_cons_self _ h) z (a.same e) (LL.mono e (fun b hb => k b (List.mem_cons_of_mem _ hb)) r)
theorem DcAt.mono {p : Addr} {kvs : List (D × D)} (e : Same Z Z') (kp : ∀ o, H p = some o → H' p = some o) (h : DcAt K Z H p kvs) : DcAt K Z' H' p kvs := by
  rcases h with ⟨ks, e1, r⟩ | ⟨ks, kvs', e0, e1, r⟩
  · exact .inl ⟨ks, kp _ e1, r.same e⟩
  · exact .inr ⟨ks, kvs', e0, kp _ e1, r.same e⟩
theorem DcAt.there {p : Addr} {kvs : List (D × D)} (h : DcAt K Z H p kvs) : H p ≠ none := by
  rcases h with ⟨ks, e1, r⟩ | ⟨ks, kvs', e0, e1, r⟩ <;> (rw [e1]; exact fun z => nomatch z)
mutual
theorem PartAt.mono0 (e : Same Z Z') : ∀ (w : PV) {v : V} {F : List Addr}, (∀ a ∈ F, ∀ o, H a = some o → H' a = some o) → PartAt K Z H v w F → PartAt K Z' H' v w F
  | .d x, _, _, _, h => ⟨h.1, h.2.same e⟩
  | .l xs, _, _, k, h => by
    obtain ⟨p, vs, h1, h2, h3, h4, h5⟩ := h
    exact ⟨p, vs, h1, h2, k p (by rw [h2]; exact List.mem_cons_self) _ h3, h4, h5.same e⟩
  | .dc kvs, _, _, k, h => by
    obtain ⟨p, h1, h2, h3⟩ := h
    exact ⟨p, h1, h2, h3.mono e (k p (by rw [h2]; exact List.mem_cons_self))⟩
  | .o c fs, _, _, k, h => by
    obtain ⟨p, dx, vs, G, h1, h2, h3, h4, h5⟩ := h
    exact ⟨p, dx, vs, G, h1, h2, k p (by rw [h2]; simp) _ h3, k dx (by rw [h2]; simp) _ h4, PsAt.mono0 e fs (fun a ha => k a (by rw [h2]; simp [ha])) h5⟩
theorem PsAt.mono0 (e : Same Z Z') : ∀ (fs : List (Str × PV)) {vs : List V} {F : List Addr}, (∀ a ∈ F, ∀ o, H a = some o → H' a = some o) → PsAt K Z H vs fs F → PsAt K Z' H' vs fs F
  | [], [], _, _, h => h
  | (n, w) :: fs, v :: vs, _, k, h => by
    obtain ⟨F1, F2, e1, h1, h2⟩ := h
    exact ⟨F1, F2, e1, PartAt.mono0 e w (fun a ha => k a (by rw [e1]; exact List.mem_append.mpr (.inl ha))) h1, PsAt.mono0 e fs (fun a ha => k a (by rw [e1]; exact List.mem_append.mpr (.inr ha))) h2⟩
  | [], _ :: _, _, _, h => h.elim
  | _ :: _, [], _, _, h => h.elim
end
theorem PartAt.mono {v : V} {w : PV} {F : List Addr} (e : Same Z Z') (k : ∀ a ∈ F, ∀ o, H a = some o → H' a = some o) (h : PartAt K Z H v w F) : PartAt K Z' H' v w F := PartAt.mono0 e w k h
/-- what is there at all of a part's things: no tuple -/
def HasP (H : Hp) (F : List Addr) : Prop := ∀ a ∈ F, H a ≠ none ∧ ∀ vs, H a ≠ some (.tup vs)
theorem HasP.app {F G : List Addr} (h1 : HasP H F) (h2 : HasP H G) : HasP H (F ++ G) := fun a ha => (List.mem_append.mp ha).elim (h1 a) (h2 a)
theorem HasP.one {p : Addr} {o : HO} (h : H p = some o) (n : ∀ vs, o ≠ .tup vs) : HasP H [p] := fun a ha => by
  obtain rfl : a = p := by simpa using ha
  refine ⟨fun e => ?_, fun vs e => n vs (Option.some.inj (h.symm.trans e))⟩
  rw [h] at e; cases e
mutual
theorem PartAt.has : ∀ (w : PV) {v : V} {F : List Addr}, PartAt K Z H v w F → HasP H F
  | .d x, _, _, h => by rw [h.1]; exact fun a ha => nomatch ha
  | .l xs, _, _, h => by
    obtain ⟨p, vs, h1, h2, h3, h4, h5⟩ := h
    rw [h2]; exact .one h3 fun _ z => nomatch z
  | .dc kvs, _, _, h => by
    obtain ⟨p, h1, h2, h3⟩ := h
    rw [h2]
    rcases h3 with ⟨ks, e1, r⟩ | ⟨ks, kvs', e0, e1, r⟩ <;> exact .one e1 fun _ z => nomatch z
  | .o c fs, _, _, h => by
    obtain ⟨p, dx, vs, G, h1, h2, h3, h4, h5⟩ := h
    rw [h2]
    exact HasP.app (F := [p]) (.one h3 fun _ z => nomatch z) (HasP.app (F := [dx]) (.one h4 fun _ z => nomatch z) (PsAt.has fs h5))
theorem PsAt.has : ∀ (fs : List (Str × PV)) {vs : List V} {F : List Addr}, PsAt K Z H vs fs F → HasP H F
  | [], [], _, h => by rw [show _ = [] from h]; exact fun a ha => nomatch ha
  | (n, w) :: fs, v :: vs, _, h => by
    obtain ⟨F1, F2, e1, h1, h2⟩ := h
    rw [e1]
    exact (PartAt.has w h1).app (PsAt.has fs h2)
  | [], _ :: _, _, h => h.elim
  | _ :: _, [], _, h => h.elim
end
theorem PartAt.there {v : V} {w : PV} {F : List Addr} (h : PartAt K Z H v w F) : ∀ a ∈ F, H a ≠ none := fun a ha => (PartAt.has w h a ha).1
theorem TpAt.mono (e : Same Z Z') : ∀ {vs : List V} {ws : List PV} {F : List Addr}, (∀ a ∈ F, ∀ o, H a = some o → H' a = some o) → TpAt K Z H vs ws F → TpAt K Z' H' vs ws F
  | _, _, _, _, .nil => .nil
  | _, _, _, k, .cons h r => .cons (h.mono e fun a ha => k a (List.mem_append.mpr (.inl ha))) (TpAt.mono e (fun a ha => k a (List.mem_append.mpr (.inr ha))) r)
theorem TpAt.there {vs : List V} {ws : List PV} {F : List Addr} (h : TpAt K Z H vs ws F) : ∀ a ∈ F, H a ≠ none := by
  induction h with
  | nil => intro a ha; cases ha
  | cons h r ih =>
    intro a ha
    rcases List.mem_append.mp ha with ha | ha
    · exact h.there a ha
    · exact ih a ha
theorem TpAt.length {vs : List V} {ws : List PV} {F : List Addr} (h : TpAt K Z H vs ws F) : vs.length = ws.length := by
  induction h with
  | nil => rfl
  | cons h r ih => rw [List.length_cons, List.length_cons, ih]
theorem SlotAt.mono {v : Option V} {sv : SV} {F : List Addr} (e : Same Z Z') (k : ∀ a ∈ F, ∀ o, H a = some o → H' a = some o) (h : SlotAt K Z H v sv F) : SlotAt K Z' H' v sv F := by
  cases sv with
  | no => exact h
  | d x =>
    obtain ⟨h1, u, h2, r⟩ := h
    exact ⟨h1, u, h2, r.same e⟩
  | l xs =>
    obtain ⟨p, vs, h1, h2, h3, h4, h5⟩ := h
    exact ⟨p, vs, h1, h2, k p (by rw [h2]; exact List.mem_cons_self) _ h3, h4, h5.same e⟩
  | ll xss =>
    obtain ⟨p, qs, h1, h2, h3, h4, h5⟩ := h
    exact ⟨p, qs, h1, h2, k p (by rw [h2]; exact List.mem_cons_self) _ h3, h4, h5.mono e fun a ha => k a (by rw [h2]; exact List.mem_cons_of_mem _ ha)⟩
  | dc kvs =>
    obtain ⟨p, h1, h2, h3⟩ := h
    exact ⟨p, h1, h2, h3.mono e (k p (by rw [h2]; exact List.mem_cons_self))⟩
  | ob c fs =>
    obtain ⟨p, dx, vs, G, h1, h2, h3, h4, h5⟩ := h
    exact ⟨p, dx, vs, G, h1, h2, k p (by rw [h2]; simp) _ h3, k dx (by rw [h2]; simp) _ h4, h5.mono e fun a ha => k a (by rw [h2]; simp [ha])⟩
  | tp ws =>
    obtain ⟨p, vs, h1, h3, h4, h5⟩ := h
    exact ⟨p, vs, h1, e _ _ h3, h4, h5.mono e k⟩
  | lo ws =>
    obtain ⟨p, vs, G, h1, h2, h3, h4, h5⟩ := h
    exact ⟨p, vs, G, h1, h2, k p (by rw [h2]; simp) _ h3, h4, h5.mono e fun a ha => k a (by rw [h2]; simp [ha])⟩
theorem SlotAt.there {v : Option V} {sv : SV} {F : List Addr} (h : SlotAt K Z H v sv F) : ∀ a ∈ F, H a ≠ none := by
  have LLt : ∀ {qs : List Addr} {xss : List (List D)}, LL K Z H qs xss → ∀ a ∈ qs, H a ≠ none := by
    intro qs xss r
    induction r with
    | nil => intro a ha; cases ha
    | cons h z a r ih =>
      intro b hb
      rcases List.mem_cons.mp hb with rfl | hb
      · rw [h]; exact fun z => nomatch z
      · exact ih b hb
  intro a ha
  cases sv with
  | no => rw [show F = [] from h] at ha; cases ha
  | d x => rw [h.1] at ha; cases ha
  | l xs =>
    obtain ⟨p, vs, h1, h2, h3, h4, h5⟩ := h
    rw [h2] at ha
    obtain rfl : a = p := by simpa using ha
    rw [h3]; exact fun z => nomatch z
  | ll xss =>
    obtain ⟨p, qs, h1, h2, h3, h4, h5⟩ := h
    rw [h2] at ha
    rcases List.mem_cons.mp ha with rfl | ha
    · rw [h3]; exact fun z => nomatch z
    · exact LLt h5 a ha
  | dc kvs =>
    obtain ⟨p, h1, h2, h3⟩ := h
    rw [h2] at ha
    obtain rfl : a = p := by simpa using ha
    exact h3.there
  | ob c fs =>
    obtain ⟨p, dx, vs, G, h1, h2, h3, h4, h5⟩ := h
    rw [h2] at ha
    rcases List.mem_cons.mp ha with rfl | ha
    · rw [h3]; exact fun z => nomatch z
    · rcases List.mem_cons.mp ha with rfl | ha
      · rw [h4]; exact fun z => nomatch z
      · exact h5.there a ha
  | tp ws =>
    obtain ⟨p, vs, h1, h3, h4, h5⟩ := h
    exact h5.there a ha
  | lo ws =>
    obtain ⟨p, vs, G, h1, h2, h3, h4, h5⟩ := h
    rw [h2] at ha
    rcases List.mem_cons.mp ha with rfl | ha
    · rw [h3]; exact fun z => nomatch z
    · exact h5.there a ha
theorem DcAt.nt {p : Addr} {kvs : List (D × D)} (h : DcAt K Z H p kvs) : ∀ vs, H p ≠ some (.tup vs) := by
  intro vs
  rcases h with ⟨ks, e1, r⟩ | ⟨ks, kvs', e0, e1, r⟩ <;> (rw [e1]; exact fun z => nomatch z)
theorem PartAt.nt {v : V} {w : PV} {F : List Addr} (h : PartAt K Z H v w F) : ∀ a ∈ F, ∀ vs, H a ≠ some (.tup vs) := fun a ha => (PartAt.has w h a ha).2
theorem TpAt.nt {vs : List V} {ws : List PV} {F : List Addr} (h : TpAt K Z H vs ws F) : ∀ a ∈ F, ∀ vs, H a ≠ some (.tup vs) := by
  induction h with
  | nil => intro a ha; cases ha
  | cons h r ih =>
    intro a ha
    rcases List.mem_append.mp ha with ha | ha
    · exact h.nt a ha
    · exact ih a ha
theorem SlotAt.nt {v : Option V} {sv : SV} {F : List Addr} (h : SlotAt K Z H v sv F) : ∀ a ∈ F, ∀ vs, H a ≠ some (.tup vs) := by
  have LLt : ∀ {qs : List Addr} {xss : List (List D)}, LL K Z H qs xss → ∀ a ∈ qs, ∀ vs, H a ≠ some (.tup vs) := by
    intro qs xss r
    induction r with
    | nil => intro a ha; cases ha
    | cons h z a r ih =>
      intro b hb us
      rcases List.mem_cons.mp hb with rfl | hb
      · rw [h]; exact fun z => nomatch z
      · exact ih b hb us
  intro a ha us
  cases sv with
  | no => rw [show F = [] from h] at ha; cases ha
  | d x => rw [h.1] at ha; cases ha
  | l xs =>
    obtain ⟨p, vs, h1, h2, h3, h4, h5⟩ := h
    rw [h2] at ha
    obtain rfl : a = p := by simpa using ha
    rw [h3]; exact fun z => nomatch z
  | ll xss =>
    obtain ⟨p, qs, h1, h2, h3, h4, h5⟩ := h
    rw [h2] at ha
    rcases List.mem_cons.mp ha with rfl | ha
    · rw [h3]; exact fun z => nomatch z
    · exact LLt h5 a ha us
  | dc kvs =>
    obtain ⟨p, h1, h2, h3⟩ := h
    rw [h2] at ha
    obtain rfl : a = p := by simpa using ha
    exact h3.nt us
  | ob c fs =>
    obtain ⟨p, dx, vs, G, h1, h2, h3, h4, h5⟩ := h
    rw [h2] at ha
    rcases List.mem_cons.mp ha with rfl | ha
    · rw [h3]; exact fun z => nomatch z
    · rcases List.mem_cons.mp ha with rfl | ha
      · rw [h4]; exact fun z => nomatch z
      · exact h5.nt a ha us
  | tp ws =>
    obtain ⟨p, vs, h1, h3, h4, h5⟩ := h
    exact h5.nt a ha us
  | lo ws =>
    obtain ⟨p, vs, G, h1, h2, h3, h4, h5⟩ := h
    rw [h2] at ha
    rcases List.mem_cons.mp ha with rfl | ha
    · rw [h3]; exact fun z => nomatch z
    · exact h5.nt a ha us
end
/-- the state: Z what nobody changes, Y what others hold, H all; σ the slots' values, s what they hold -/
structure OwnF (K : PySem.W.Frag) (Z Y H : Hp) (σ : St) (s : S) (F : Nat → List Addr) : Prop where
  at_ : ∀ i, SlotAt K Z H (σ.getD i none) (s.getD i .no) (F i)
  nd : ∀ i, (F i).Nodup
  dj : ∀ i j a, a ∈ F i → a ∈ F j → i = j
  fr : ∀ i a, a ∈ F i → Z a = none ∧ Y a = none
structure Rel (K : PySem.W.Frag) (Z Y H : Hp) (σ : St) (s : S) : Prop where
  zh : Same Z H
  yh : Same Y H
  zy : ∀ a, Z a ≠ none → Y a = none
  yt : ∀ a vs, Y a ≠ some (.tup vs)
  len : σ.length = s.length
  own : ∃ F, OwnF K Z Y H σ s F
section
variable {K : PySem.W.Frag} {Z Z' Y Y' H H' : Hp} {σ σ' : St} {s s' : S}
/-- the slots put otherwise, some forgotten -/
theorem Rel.re (r : Rel K Z Y H σ s) (f : Nat → Option Nat) (hl : σ'.length = s'.length)
    (h : ∀ k, match f k with | none => s'.getD k .no = .no ∨ ∃ x v, s'.getD k .no = .d x ∧ σ'.getD k none = some v ∧ Rp K Z v x | some j => s'.getD k .no = s.getD j .no ∧ σ'.getD k none = σ.getD j none)
    (inj : ∀ k k' j, f k = some j → f k' = some j → k = k') : Rel K Z Y H σ' s' := by
  obtain ⟨F, o⟩ := r.own
  refine ⟨r.zh, r.yh, r.zy, r.yt, hl, fun k => match f k with | none => [] | some j => F j, fun k => ?_, fun k => ?_, fun k k' a ha ha' => ?_, fun k a ha => ?_⟩
  · have hk := h k
    cases e : f k with
    | none =>
      rw [e] at hk
      rcases hk with hk | ⟨x, v, h1, h2, h3⟩
      · rw [hk]; exact rfl
      · rw [h1]; exact ⟨rfl, v, h2, h3⟩
    | some j =>
      rw [e] at hk
      rw [hk.1, hk.2]
      exact o.at_ j
  · cases e : f k with
    | none => exact .nil
    | some j => exact o.nd j
  · cases e : f k with
    | none => rw [e] at ha; cases ha
    | some j =>
      rw [e] at ha
      cases e' : f k' with
      | none => rw [e'] at ha'; cases ha'
      | some j' =>
        rw [e'] at ha'
        have := o.dj j j' a ha ha'
        subst this
        exact inj k k' j e e'
  · cases e : f k with
    | none => rw [e] at ha; cases ha
    | some j =>
      rw [e] at ha
      exact o.fr j a ha
theorem getD_app_lt {α : Type} {l r : List α} {i : Nat} {d : α} (h : i < l.length) : (l ++ r).getD i d = l.getD i d := by
  rw [List.getD_eq_getElem?_getD, List.getD_eq_getElem?_getD, List.getElem?_append_left h]
theorem getD_app_ge {α : Type} {l r : List α} {i : Nat} {d : α} (h : l.length ≤ i) : (l ++ r).getD i d = r.getD (i - l.length) d := by
  rw [List.getD_eq_getElem?_getD, List.getD_eq_getElem?_getD, List.getElem?_append_right h]
theorem getD_out {α : Type} {l : List α} {i : Nat} {d : α} (h : l.length ≤ i) : l.getD i d = d := by
  rw [List.getD_eq_getElem?_getD, List.getElem?_eq_none h]; rfl
theorem getD_set_self {α : Type} {l : List α} {i : Nat} {d x : α} (h : i < l.length) : (l.set i x).getD i d = x := by
  rw [List.getD_eq_getElem?_getD, List.getElem?_set_self h]; rfl
theorem getD_set_ne {α : Type} {l : List α} {i j : Nat} {d x : α} (h : i ≠ j) : (l.set i x).getD j d = l.getD j d := by
  rw [List.getD_eq_getElem?_getD, List.getD_eq_getElem?_getD, List.getElem?_set_ne h]
/-- the last slots put aside: whatever happens to the others, they stand -/
theorem Rel.frame {ts : St} {us : S} (r : Rel K Z Y H (σ ++ ts) (s ++ us)) (hl : σ.length = s.length) :
    ∃ Y', Same Y Y' ∧ Rel K Z Y' H σ s ∧ (∀ Z1 H1 σ1 s1, Same Z Z1 → Rel K Z1 Y' H1 σ1 s1 → Rel K Z1 Y H1 (σ1 ++ ts) (s1 ++ us)) ∧ ∀ j, ∃ F, SlotAt K Z Y' (ts.getD j none) (us.getD j .no) F := by
  classical
  obtain ⟨F, o⟩ := r.own
  have hl2 : ts.length = us.length := by
    have := r.len
    rw [List.length_append, List.length_append] at this
    omega
  -- what the last slots hold
  refine ⟨fun a => if ∃ i, σ.length ≤ i ∧ a ∈ F i then H a else Y a, fun a q e => ?_, ⟨r.zh, fun a q e => ?_, fun a hz => ?_, fun a vs => ?_, hl, fun i => if i < σ.length then F i else [], fun i => ?_, fun i => ?_, fun i j a ha ha' => ?_, fun i a ha => ?_⟩, ?_⟩
  · show (if _ then _ else _) = _
    split
    · rename_i hc
      obtain ⟨i, _, hi⟩ := hc
      rw [(o.fr i a hi).2] at e; cases e
    · exact e
  · have e : (if ∃ i, σ.length ≤ i ∧ a ∈ F i then H a else Y a) = some q := e
    split at e
    · exact e
    · exact r.yh a q e
  · show (if _ then _ else _) = _
    split
    · rename_i hc
      obtain ⟨i, _, hi⟩ := hc
      exact absurd (o.fr i a hi).1 hz
    · exact r.zy a hz
  · show (if _ then _ else _) ≠ _
    split
    · rename_i hc
      obtain ⟨i, _, hi⟩ := hc
      exact (o.at_ i).nt a hi vs
    · exact r.yt a vs
  · by_cases hi : i < σ.length
    · rw [if_pos hi]
      have := o.at_ i
      rw [getD_app_lt hi, getD_app_lt (by omega)] at this
      exact this
    · rw [if_neg hi, getD_out (l := s) (by omega)]
      exact rfl
  · by_cases hi : i < σ.length
    · rw [if_pos hi]; exact o.nd i
    · rw [if_neg hi]; exact .nil
  · by_cases hi : i < σ.length
    · by_cases hj : j < σ.length
      · rw [if_pos hi] at ha; rw [if_pos hj] at ha'
        exact o.dj i j a ha ha'
      · rw [if_neg hj] at ha'; cases ha'
    · rw [if_neg hi] at ha; cases ha
  · by_cases hi : i < σ.length
    · rw [if_pos hi] at ha
      refine ⟨(o.fr i a ha).1, ?_⟩
      show (if _ then _ else _) = _
      rw [if_neg]
      · exact (o.fr i a ha).2
      · rintro ⟨j, hj, ha'⟩
        have := o.dj i j a ha ha'
        omega
    · rw [if_neg hi] at ha; cases ha
  refine ⟨?_, fun j => ⟨F (σ.length + j), ?_⟩⟩
  rotate_left
  · have q := o.at_ (σ.length + j)
    rw [getD_app_ge (by omega), getD_app_ge (by omega), ← hl, Nat.add_sub_cancel_left] at q
    exact q.mono (Same.refl _) fun a ha ob e => (if_pos ⟨_, Nat.le_add_right _ _, ha⟩ : (if ∃ i, σ.length ≤ i ∧ a ∈ F i then H a else Y a) = H a).trans e
  · intro Z1 H1 σ1 s1 hz r1
    obtain ⟨F1, o1⟩ := r1.own
    have yy : ∀ i, σ.length ≤ i → ∀ a ∈ F i, (if ∃ i, σ.length ≤ i ∧ a ∈ F i then H a else Y a) = H a := fun i hi a ha => if_pos ⟨i, hi, ha⟩
    refine ⟨r1.zh, fun a q e => r1.yh a q ?_, fun a hza => ?_, r.yt, by rw [List.length_append, List.length_append, r1.len, hl2], fun i => if i < σ1.length then F1 i else F (i - σ1.length + σ.length), fun i => ?_, fun i => ?_, fun i j a ha ha' => ?_, fun i a ha => ?_⟩
    · show (if _ then _ else _) = _
      split
      · rename_i hc
        obtain ⟨i, _, hi⟩ := hc
        rw [(o.fr i a hi).2] at e; cases e
      · exact e
    · have q := r1.zy a hza
      have q : (if ∃ i, σ.length ≤ i ∧ a ∈ F i then H a else Y a) = none := q
      split at q
      · rename_i hc
        obtain ⟨i, _, hi⟩ := hc
        exact (o.fr i a hi).2
      · exact q
    · by_cases hi : i < σ1.length
      · rw [if_pos hi, getD_app_lt hi, getD_app_lt (by have := r1.len; omega)]
        exact o1.at_ i
      · rw [if_neg hi, getD_app_ge (by omega), getD_app_ge (by have := r1.len; omega), ← r1.len]
        have q := o.at_ (i - σ1.length + σ.length)
        rw [getD_app_ge (by omega), getD_app_ge (by omega), ← hl, Nat.add_sub_cancel] at q
        refine q.mono hz fun a ha ob e => ?_
        refine r1.yh a ob ?_
        exact (yy _ (by omega) a ha).trans e
    · by_cases hi : i < σ1.length
      · rw [if_pos hi]; exact o1.nd i
      · rw [if_neg hi]; exact o.nd _
    · have cross : ∀ i k, a ∈ F1 i → σ.length ≤ k → a ∈ F k → False := fun i k h1 hk h2 => by
        have q := (o1.fr i a h1).2
        exact (o.at_ k).there a h2 ((yy k hk a h2).symm.trans q)
      by_cases hi : i < σ1.length
      · rw [if_pos hi] at ha
        by_cases hj : j < σ1.length
        · rw [if_pos hj] at ha'; exact o1.dj i j a ha ha'
        · rw [if_neg hj] at ha'; exact (cross i _ ha (by omega) ha').elim
      · rw [if_neg hi] at ha
        by_cases hj : j < σ1.length
        · rw [if_pos hj] at ha'; exact (cross j _ ha' (by omega) ha).elim
        · rw [if_neg hj] at ha'
          have := o.dj _ _ a ha ha'
          omega
    · by_cases hi : i < σ1.length
      · rw [if_pos hi] at ha
        have q := o1.fr i a ha
        refine ⟨q.1, ?_⟩
        have q2 : (if ∃ i, σ.length ≤ i ∧ a ∈ F i then H a else Y a) = none := q.2
        split at q2
        · rename_i hc
          obtain ⟨j, _, hj⟩ := hc
          exact (o.fr j a hj).2
        · exact q2
      · rw [if_neg hi] at ha
        refine ⟨?_, (o.fr _ a ha).2⟩
        cases e : Z1 a with
        | none => rfl
        | some q =>
          have := r1.zy a (by rw [e]; exact fun z => nomatch z)
          exact absurd ((yy _ (by omega) a ha).symm.trans this) ((o.at_ _).there a ha)
/-- the heap and what nobody changes have grown -/
theorem Rel.grow (r : Rel K Z Y H σ s) (hh : Same H H') (hz : Same Z Z') (zh : Same Z' H') (new : ∀ a, H a ≠ none → Z' a = Z a) : Rel K Z' Y H' σ s := by
  obtain ⟨F, o⟩ := r.own
  refine ⟨zh, fun a q e => hh a q (r.yh a q e), fun a hz' => ?_, r.yt, r.len, F, fun i => ?_, o.nd, o.dj, fun i a ha => ?_⟩
  · cases e : Y a with
    | none => rfl
    | some q =>
      have h1 : H a ≠ none := by rw [r.yh a q e]; exact fun z => nomatch z
      rw [new a h1] at hz'
      rw [r.zy a hz'] at e; cases e
  · exact (o.at_ i).mono hz fun a _ ob e => hh a ob e
  · have h1 := (o.at_ i).there a ha
    rw [new a h1]
    exact o.fr i a ha
theorem same_upd {H : Hp} {p : Addr} {o : HO} (h : H p = none) : Same H (upd H p o) := fun b x e => by
  rw [upd_ne (ne_of_none e h)]
  exact e
theorem Rel.fresh (r : Rel K Z Y H σ s) {p : Addr} (h : H p = none) : Z p = none := r.zh.free h
/-- a new tuple -/
theorem Rel.newZ (r : Rel K Z Y H σ s) {p : Addr} (o : HO) (h : H p = none) : Rel K (upd Z p o) Y (upd H p o) σ s :=
  r.grow (same_upd h) (same_upd (r.fresh h)) (fun a q e => by
    by_cases ha : a = p
    · subst ha; rw [upd_same] at e ⊢; exact e
    · rw [upd_ne ha] at e ⊢; exact r.zh a q e) fun a ha => upd_ne fun e => ha (e ▸ h)
/-- a new slot behind the others, of new things -/
theorem Rel.push (r : Rel K Z Y H σ s) {v : Option V} {sv : SV} {F : List Addr} (hh : Same H H') (hz : Same Z Z') (zh : Same Z' H') (new : ∀ a, H a ≠ none → Z' a = Z a) (h : SlotAt K Z' H' v sv F) (nd : F.Nodup)
    (fr : ∀ a ∈ F, H a = none ∧ Z' a = none) : Rel K Z' Y H' (σ ++ [v]) (s ++ [sv]) := by
  obtain ⟨G, o⟩ := r.own
  have g := r.grow hh hz zh new
  have hd : ∀ i, ∀ a ∈ F, a ∉ G i := fun i a ha hg => (o.at_ i).there a hg (fr a ha).1
  have o' : OwnF K Z' Y H' σ s G := ⟨fun i => (o.at_ i).mono hz fun a _ ob e => hh a ob e, o.nd, o.dj, fun i a ha => by
    rw [new a ((o.at_ i).there a ha)]
    exact o.fr i a ha⟩
  refine ⟨zh, g.yh, g.zy, g.yt, by rw [List.length_append, List.length_append, r.len]; rfl, fun i => if i = σ.length then F else G i, fun i => ?_, fun i => ?_, fun i j a ha ha' => ?_, fun i a ha => ?_⟩
  · by_cases hi : i = σ.length
    · rw [if_pos hi, getD_app_ge (by omega), getD_app_ge (by have := r.len; omega), hi, Nat.sub_self, ← r.len, Nat.sub_self]
      exact h
    · rw [if_neg hi]
      have q := o'.at_ i
      by_cases hlt : i < σ.length
      · rw [getD_app_lt hlt, getD_app_lt (by have := r.len; omega)]
        exact q
      · rw [getD_out (l := s ++ [sv]) (by rw [List.length_append]; have := r.len; show s.length + 1 ≤ i; omega)]
        rw [getD_out (l := s) (by have := r.len; omega)] at q
        exact q
  · by_cases hi : i = σ.length
    · rw [if_pos hi]; exact nd
    · rw [if_neg hi]; exact o'.nd i
  · by_cases hi : i = σ.length
    · rw [if_pos hi] at ha
      by_cases hj : j = σ.length
      · rw [hi, hj]
      · rw [if_neg hj] at ha'; exact (hd j a ha ha').elim
    · rw [if_neg hi] at ha
      by_cases hj : j = σ.length
      · rw [if_pos hj] at ha'; exact (hd i a ha' ha).elim
      · rw [if_neg hj] at ha'; exact o'.dj i j a ha ha'
  · by_cases hi : i = σ.length
    · rw [if_pos hi] at ha
      refine ⟨(fr a ha).2, ?_⟩
      cases e : Y a with
      | none => rfl
      | some q => exact absurd (fr a ha).1 (by rw [r.yh a q e]; exact fun z => nomatch z)
    · rw [if_neg hi] at ha; exact o'.fr i a ha
theorem Rel.push0 (r : Rel K Z Y H σ s) {v : Option V} {sv : SV} (h : SlotAt K Z H v sv []) : Rel K Z Y H (σ ++ [v]) (s ++ [sv]) :=
  r.push (Same.refl _) (Same.refl _) r.zh (fun _ _ => rfl) h .nil (fun a ha => nomatch ha)
theorem Rel.pushD (r : Rel K Z Y H σ s) {v : V} {x : D} (h : Rp K Z v x) : Rel K Z Y H (σ ++ [some v]) (s ++ [.d x]) := r.push0 ⟨rfl, v, rfl, h⟩
theorem Rel.pushN (r : Rel K Z Y H σ s) {v : Option V} : Rel K Z Y H (σ ++ [v]) (s ++ [.no]) := r.push0 rfl
/-- a new list -/
theorem Rel.newL (r : Rel K Z Y H σ s) {p : Addr} {vs : List V} {xs : List D} (h : H p = none) (hz : vs.length ≤ sizeLine) (a : RpAll K Z vs xs) : Rel K Z Y (upd H p (.lst vs)) (σ ++ [some (.ref p)]) (s ++ [.l xs]) :=
  r.push (F := [p]) (same_upd h) (Same.refl _) (r.zh.trans (same_upd h)) (fun _ _ => rfl) ⟨p, vs, rfl, rfl, upd_same, hz, a⟩ (by simp) fun a ha => by
    obtain rfl : a = p := by simpa using ha
    exact ⟨h, r.fresh h⟩
/-- what a slot alone holds: nobody else speaks of it -/
theorem OwnF.lone {F : Nat → List Addr} (o : OwnF K Z Y H σ s F) {i j : Nat} {a : Addr} (h : a ∈ F i) (hj : j ≠ i) : a ∉ F j := fun h' => hj (o.dj j i a h' h)
/-- a slot's list is written -/
theorem Rel.write (r : Rel K Z Y H σ s) {i : Nat} {p : Addr} {vs' : List V} {xs xs' : List D} (hs : s.getD i .no = .l xs) (hv : σ.getD i none = some (.ref p)) (hz : vs'.length ≤ sizeLine) (a : RpAll K Z vs' xs') :
    Rel K Z Y (upd H p (.lst vs')) σ (s.set i (.l xs')) := by
  obtain ⟨F, o⟩ := r.own
  have q := o.at_ i
  rw [hs, hv] at q
  obtain ⟨p', vs, h1, h2, h3, h4, h5⟩ := q
  cases h1
  have hi : i < s.length := by
    by_cases h : i < s.length
    · exact h
    · rw [getD_out (by omega)] at hs; cases hs
  have pf := o.fr i p (by rw [h2]; exact List.mem_cons_self)
  refine ⟨fun b x e => ?_, fun b x e => ?_, r.zy, r.yt, by rw [List.length_set]; exact r.len, F, fun j => ?_, o.nd, o.dj, o.fr⟩
  · rw [upd_ne (fun z => by rw [z, pf.1] at e; cases e)]; exact r.zh b x e
  · rw [upd_ne (fun z => by rw [z, pf.2] at e; cases e)]; exact r.yh b x e
  · by_cases hj : i = j
    · subst hj
      rw [getD_set_self hi, hv, h2]
      exact ⟨p, vs', rfl, rfl, upd_same, hz, a⟩
    · rw [getD_set_ne hj]
      refine (o.at_ j).mono (Same.refl _) fun b hb ob e => ?_
      rw [upd_ne]
      · exact e
      · rintro rfl
        exact hj (o.dj i j b (by rw [h2]; exact List.mem_cons_self) hb)
/-- what a slot's content is as a value -/
def asD : SV → Option D
  | .d x => some x
  | .l xs => some (.list xs)
  | .ll xss => some (.list (xss.map .list))
  | .dc kvs => some (.dict kvs)
  | .tp ws => some (.tuple (ws.map PV.asD))
  | .ob c fs => some (obD c (fs.map fun p => (.str p.1, p.2.asD)))
  | .no => none
  | .lo _ => none
theorem DcAt.rp {p : Addr} {kvs : List (D × D)} (h : DcAt K Z H p kvs) (e : Same Z H) : Rp K H (.ref p) (.dict kvs) := by
  rcases h with ⟨ks, e1, r⟩ | ⟨ks, kvs', e0, e1, r⟩
  · exact .dcK (.inl e1) (r.same e)
  · rw [e0]; exact .dcT e1 (r.same e)
mutual
theorem PartAt.rp0 (e : Same Z H) : ∀ (w : PV) {v : V} {F : List Addr}, PartAt K Z H v w F → Rp K H v w.asD
  | .d x, _, _, h => h.2.same e
  | .l xs, _, _, h => by
    obtain ⟨p, vs, h1, h2, h3, h4, h5⟩ := h
    rw [h1]
    exact .lst (.inl h3) h4 (h5.same e)
  | .dc kvs, _, _, h => by
    obtain ⟨p, h1, h2, h3⟩ := h
    rw [h1]
    exact h3.rp e
  | .o c fs, _, _, h => by
    obtain ⟨p, dx, vs, G, h1, h2, h3, h4, h5⟩ := h
    rw [h1]
    exact .obj h3 h4 (PsAt.rp0 e fs h5)
theorem PsAt.rp0 (e : Same Z H) : ∀ (fs : List (Str × PV)) {vs : List V} {F : List Addr}, PsAt K Z H vs fs F → RpK K H (obK ((fs.map (·.1)).zip vs)) (PV.asDs fs)
  | [], [], _, h => .nil
  | (n, w) :: fs, v :: vs, _, h => by
    obtain ⟨F1, F2, e1, h1, h2⟩ := h
    exact .cons (k := .inr n) (PartAt.rp0 e w h1) (PsAt.rp0 e fs h2)
  | [], _ :: _, _, h => h.elim
  | _ :: _, [], _, h => h.elim
end
theorem PartAt.rp {v : V} {w : PV} {F : List Addr} (h : PartAt K Z H v w F) (e : Same Z H) : Rp K H v w.asD := PartAt.rp0 e w h
theorem TpAt.all {vs : List V} {ws : List PV} {F : List Addr} (h : TpAt K Z H vs ws F) (e : Same Z H) : RpAll K H vs (ws.map PV.asD) := by
  induction h with
  | nil => exact .nil
  | cons h r ih => exact .cons (h.rp e) ih
theorem TpAt.keys (e : Same Z H) : ∀ {fs : List (Str × PV)} {vs : List V} {F : List Addr}, TpAt K Z H vs (fs.map (·.2)) F → RpK K H (obK ((fs.map (·.1)).zip vs)) (fs.map fun p => (.str p.1, p.2.asD))
  | [], _, _, .nil => .nil
  | (n, w) :: fs, _, _, .cons h r => .cons (k := .inr n) (h.rp e) (TpAt.keys e r)
theorem LL.all : ∀ {qs : List Addr} {xss : List (List D)}, LL K Z H qs xss → Same Z H → RpAll K H (qs.map V.ref) (xss.map .list)
  | _, _, .nil, _ => .nil
  | _, _, .cons h z a r, e => .cons (.lst (.inl h) z (a.same e)) (LL.all r e)
theorem SlotAt.asD {v : Option V} {sv : SV} {F : List Addr} {x : D} (h : SlotAt K Z H v sv F) (e : Same Z H) (ha : asD sv = some x) : ∃ u, v = some u ∧ Rp K H u x := by
  cases sv with
  | no => cases ha
  | lo ws => cases ha
  | d y =>
    cases ha
    obtain ⟨_, u, h2, r⟩ := h
    exact ⟨u, h2, r.same e⟩
  | l xs =>
    cases ha
    obtain ⟨p, vs, h1, h2, h3, h4, h5⟩ := h
    exact ⟨_, h1, .lst (.inl h3) h4 (h5.same e)⟩
  | ll xss =>
    cases ha
    obtain ⟨p, qs, h1, h2, h3, h4, h5⟩ := h
    exact ⟨_, h1, .lst (.inl h3) (by rw [List.length_map]; exact h4) (h5.all e)⟩
  | dc kvs =>
    cases ha
    obtain ⟨p, h1, h2, h3⟩ := h
    exact ⟨_, h1, h3.rp e⟩
  | ob c fs =>
    cases ha
    obtain ⟨p, dx, vs, G, h1, h2, h3, h4, h5⟩ := h
    exact ⟨_, h1, .obj h3 h4 (h5.keys e)⟩
  | tp ws =>
    cases ha
    obtain ⟨p, vs, h1, h3, h4, h5⟩ := h
    exact ⟨_, h1, .tup (e _ _ h3) h4 (h5.all e)⟩
/-- nobody changes any more what a slot held alone -/
theorem Rel.freeze (r : Rel K Z Y H σ s) {i : Nat} {x : D} (ha : Hs.asD (s.getD i .no) = some x) :
    ∃ Z', Same Z Z' ∧ Rel K Z' Y H σ (s.set i (.d x)) := by
  classical
  obtain ⟨F, o⟩ := r.own
  have hi : i < s.length := by
    by_cases h : i < s.length
    · exact h
    · rw [getD_out (by omega)] at ha; cases ha
  let Z' : Hp := fun a => if a ∈ F i then H a else Z a
  have hz : Same Z Z' := fun a q e => by
    show (if _ then _ else _) = _
    rw [if_neg (fun h => by rw [(o.fr i a h).1] at e; cases e)]
    exact e
  have zh : Same Z' H := fun a q e => by
    have e : (if a ∈ F i then H a else Z a) = some q := e
    split at e
    · exact e
    · exact r.zh a q e
  refine ⟨Z', hz, zh, r.yh, fun a ha => ?_, r.yt, by rw [List.length_set]; exact r.len, fun j => if j = i then [] else F j, fun j => ?_, fun j => ?_, fun j k a ha ha' => ?_, fun j a ha => ?_⟩
  · have e : (if a ∈ F i then H a else Z a) ≠ none := ha
    split at e
    · exact (o.fr i a (by assumption)).2
    · exact r.zy a e
  · by_cases hj : j = i
    · subst hj
      rw [if_pos rfl, getD_set_self hi]
      -- within Z' alone
      have q := o.at_ j
      have q' : SlotAt K Z' Z' (σ.getD j none) (s.getD j .no) (F j) := q.mono hz fun a ha ob e => by
        show (if _ then _ else _) = _
        rw [if_pos ha]; exact e
      obtain ⟨u, h1, h2⟩ := q'.asD (Same.refl _) ha
      exact ⟨rfl, u, h1, h2⟩
    · rw [if_neg hj, getD_set_ne (Ne.symm hj)]
      exact (o.at_ j).mono hz fun a _ ob e => e
  · by_cases hj : j = i
    · rw [if_pos hj]; exact .nil
    · rw [if_neg hj]; exact o.nd j
  · by_cases hj : j = i
    · rw [if_pos hj] at ha; cases ha
    · rw [if_neg hj] at ha
      by_cases hk : k = i
      · rw [if_pos hk] at ha'; cases ha'
      · rw [if_neg hk] at ha'; exact o.dj j k a ha ha'
  · by_cases hj : j = i
    · rw [if_pos hj] at ha; cases ha
    · rw [if_neg hj] at ha
      refine ⟨?_, (o.fr j a ha).2⟩
      show (if _ then _ else _) = _
      rw [if_neg (o.lone ha (Ne.symm hj))]
      exact (o.fr j a ha).1
end
end Hs
namespace Hs
open PySem
abbrev XF := Str → S → Prop
abbrev FE := XF → S → (R → S → Prop) → Prop
abbrev FT := XF → S → (Bool → S → Prop) → Prop
abbrev FA := XF → S → (List R → S → Prop) → Prop
abbrev FO := XF → S → (Option Int → S → Prop) → Prop
structure FEnds where
  nx : S → Prop
  rt : R → S → Prop
  bk : S → Prop := fun _ => False
  ct : S → Prop := fun _ => False
  xx : XF
abbrev FS := FEnds → S → Prop
abbrev FG := D → S → (S → Prop) → Prop
abbrev FI := XF → S → (List D → S → Prop) → Prop
/-- a def: its arguments' slots; what is wanted of an error and of an answer, with the arguments' slots as they end -/
abbrev FSem := List SV → XF → (R → S → Prop) → Prop
abbrev V1 := D → (R → Prop) → Prop
abbrev V2 := D → D → (R → Prop) → Prop
abbrev VN := List D → (R → Prop) → Prop
def svR : R → SV
  | .d x => .d x
  | .own v => v
  | .top _ => .no
/-- a slot's content as a value that may be looked at -/
def viewS : SV → Option D
  | .d x => some x
  | .l xs => some (.list xs)
  | .dc kvs => some (.dict kvs)
  | _ => none
def viewR (s : S) : R → Option D
  | .d x => some x
  | .own v => viewS v
  | .top i => viewS (s.getD i .no)
def look (s : S) (r : R) (k : D → Prop) : Prop :=
  match viewR s r with
  | some d => k d
  | none => False
/-- .. that nobody changes from now on -/
def frz (r : R) (s : S) (k : D → S → Prop) : Prop :=
  match r with
  | .d x => k x s
  | .own v => match asD v with
    | some x => k x s
    | none => False
  | .top i => match asD (s.getD i .no) with
    | some x => k x (s.set i (.d x))
    | none => False
def frzAll : List R → S → (List D → S → Prop) → Prop
  | [], s, k => k [] s
  | r :: rs, s, k => frz r s fun x s1 => frzAll rs s1 fun xs s2 => k (x :: xs) s2
def fVar (i : Nat) : FE := fun _ s Q =>
  match s.getD i .no with
  | .no => False
  | .d x => Q (.d x) s
  | _ => Q (.top i) s
def fC (x : D) : FE := fun _ s Q => Q (.d x) s
def fNil : FA := fun _ s Q => Q [] s
def fCons (a : FE) (r : FA) : FA := fun X s Q => a X s fun x s1 => r X s1 fun xs s2 => Q (x :: xs) s2
def fTup (a : FA) : FE := fun X s Q => a X s fun rs s1 => frzAll rs s1 fun ds s2 => Q (.d (.tuple ds)) s2
def fLst (a : FA) : FE := fun X s Q => a X s fun rs s1 => frzAll rs s1 fun ds s2 => Q (.own (.l ds)) s2
def fOp (g : V2) (a b : FE) : FE := fun X s Q => a X s fun r1 s1 => b X s1 fun r2 s2 => look s2 r1 fun d => look s2 r2 fun e => g d e fun r => Q r s2
def fUn (g : V1) (a : FE) : FE := fun X s Q => a X s fun r1 s1 => look s1 r1 fun d => g d fun r => Q r s1
/-- a built-in called with values that it looks at -/
def fBlt (g : VN) (a : FA) : FE := fun X s Q => a X s fun rs s1 => lookAll s1 rs fun ds => g ds fun r => Q r s1
where lookAll (s : S) : List R → (List D → Prop) → Prop
  | [], k => k []
  | r :: rs, k => look s r fun d => lookAll s rs fun ds => k (d :: ds)
def isB (r : R) (k : Bool → Prop) : Prop :=
  match r with
  | .d (.bool b) => k b
  | _ => False
def fAndV (a b : FE) : FE := fun X s Q => a X s fun r s1 => isB r fun c => if c = true then b X s1 Q else Q (.d (.bool false)) s1
def fOrV (a b : FE) : FE := fun X s Q => a X s fun r s1 => isB r fun c => if c = true then Q (.d (.bool true)) s1 else b X s1 Q
def fNotV (a : FE) : FE := fun X s Q => a X s fun r s1 => isB r fun c => Q (.d (.bool (!c))) s1
def fIfE (t : FT) (a b : FE) : FE := fun X s Q => t X s fun c s1 => if c = true then a X s1 Q else b X s1 Q
/-- a < b < c -/
def fChain (g g' : V2) (a b c : FE) : FE := fun X s Q => a X s fun r1 s1 => b X s1 fun r2 s2 => look s2 r1 fun d => look s2 r2 fun e => g d e fun r => isB r fun k =>
  if k = true then c X s2 fun r3 s3 => look s3 r2 fun e' => look s3 r3 fun h => g' e' h fun z => Q z s3 else Q (.d (.bool false)) s2
def fNoPart : FO := fun _ s Q => Q none s
def fPart (a : FE) : FO := fun X s Q => a X s fun r s1 => match r with
  | .d (.int i) => Q (some i) s1
  | _ => False
def fSl (g : D → Option Int → Option Int → (R → Prop) → Prop) (a : FE) (lo hi : FO) : FE := fun X s Q => a X s fun r s1 => lo X s1 fun l s2 => hi X s2 fun h s3 => look s3 r fun d => g d l h fun z => Q z s3
def fB (a : FE) : FT := fun X s Q => a X s fun r s1 => isB r fun c => Q c s1
def fAnd (t u : FT) : FT := fun X s Q => t X s fun c s1 => if c = true then u X s1 Q else Q false s1
def fOr (t u : FT) : FT := fun X s Q => t X s fun c s1 => if c = true then Q true s1 else u X s1 Q
def fNot (t : FT) : FT := fun X s Q => t X s fun c s1 => Q (!c) s1
def fYes : FT := fun _ s Q => Q true s
def bindA : List Bool → List R → S → (List SV → S → Prop) → Prop
  | [], [], s, k => k [] s
  | false :: ms, r :: rs, s, k => frz r s fun x s1 => bindA ms rs s1 fun svs s2 => k (.d x :: svs) s2
  | true :: ms, .top i :: rs, s, k => bindA ms rs (s.set i .no) fun svs s2 => k (s.getD i .no :: svs) s2
  | true :: ms, .d x :: rs, s, k => bindA ms rs s fun svs s2 => k (.d x :: svs) s2
  | true :: ms, .own v :: rs, s, k => bindA ms rs s fun svs s2 => k (v :: svs) s2
  | _, _, _, _ => False
/-- what the slots that were lent hold behind the call -/
def putB : List Bool → List R → S → S → S
  | true :: ms, .top i :: rs, f :: fin, s => putB ms rs fin (s.set i f)
  | _ :: ms, _ :: rs, _ :: fin, s => putB ms rs fin s
  | _, _, _, s => s
def fCall (sem : FSem) (ms : List Bool) (a : FA) : FE := fun X s Q => a X s fun rs s1 => bindA ms rs s1 fun svs s2 => sem svs (fun n fin => X n (putB ms rs fin s2)) fun r fin => Q r (putB ms rs fin s2)
def wipeS (s : S) : List Nat → S
  | [] => s
  | i :: is => wipeS (s.set i .no) is
def fComp (X : XF) (g : FG) (wp : List Nat) (t : FT) (e : FE) (Q : R → S → Prop) : List D → List D → S → Prop
  | [], acc, s => Q (.own (.l acc)) s
  | x :: xs, acc, s => g x s fun s1 => t X s1 fun b s2 => if b = true then e X s2 fun r s3 => frz r s3 fun d s4 => fComp X g wp t e Q xs (acc ++ [d]) (wipeS s4 wp) else fComp X g wp t e Q xs acc (wipeS s2 wp)
def fLc (it : FI) (g : FG) (wp : List Nat) (t : FT) (e : FE) : FE := fun X s Q => it X s fun xs s1 => xs.length ≤ sizeLine ∧ fComp (fun _ _ => False) g wp t e Q xs [] (wipeS s1 wp)
def iSeq (a : FE) : FI := fun X s Q => a X s fun r s1 => frz r s1 fun d s2 => match d with
  | .list xs => Q xs s2
  | .tuple xs => Q xs s2
  | _ => False
def lim62 (i : Int) : Prop := -(2 ^ 62) ≤ i ∧ i < 2 ^ 62
def rangeD (lo : Int) (n : Nat) : List D := (List.range n).map fun (k : Nat) => PyData.int (lo + (k : Int))
def iRange1 (a : FA) : FI := fun X s Q => a X s fun rs s1 => match rs with
  | [.d (.int j)] => lim62 j ∧ Q (rangeD 0 j.toNat) s1
  | _ => False
def iRange2 (a : FA) : FI := fun X s Q => a X s fun rs s2 => match rs with
  | [.d (.int i), .d (.int j)] => lim62 i ∧ lim62 j ∧ Q (rangeD i (j - i).toNat) s2
  | _ => False
def enumD (xs : List D) : List D := xs.zipIdx.map fun p => .tuple [.int (p.2 : Nat), p.1]
def iEnum (a : FA) : FI := fun X s Q => a X s fun rs s1 => frzAll rs s1 fun ds s2 => match ds with
  | [.list xs] => Q (enumD xs) s2
  | [.tuple xs] => Q (enumD xs) s2
  | _ => False
def zipD (xs ys : List D) : List D := List.zipWith (fun x y => .tuple [x, y]) xs ys
def iZip (a : FA) : FI := fun X s Q => a X s fun rs s1 => frzAll rs s1 fun ds s4 => match ds with
  | [.list xs, .list ys] => Q (zipD xs ys) s4
  | [.tuple xs, .list ys] => Q (zipD xs ys) s4
  | [.list xs, .tuple ys] => Q (zipD xs ys) s4
  | [.tuple xs, .tuple ys] => Q (zipD xs ys) s4
  | _ => False
def gNm (i : Nat) : FG := fun d s k => k (s.set i (.d d))
def gTp : List FG → FG := fun gs d s k => match d with
  | .tuple xs => gTps gs xs s k
  | _ => False
where gTps : List FG → List D → S → (S → Prop) → Prop
  | [], [], s, k => k s
  | g :: gs, x :: xs, s, k => g x s fun s1 => gTps gs xs s1 k
  | _, _, _, _ => False
def fNext : FS := fun E s => E.nx s
def fSeq (a b : FS) : FS := fun E s => a { E with nx := fun s1 => b E s1 } s
def fIfS (t : FT) (a b : FS) : FS := fun E s => t E.xx s fun c s1 => if c = true then a E s1 else b E s1
def fRet (a : FE) : FS := fun E s => a E.xx s E.rt
def fRetN : FS := fun E s => E.rt (.d .none) s
def fBreak : FS := fun E s => E.bk s
def fDrop (a : FE) : FS := fun E s => a E.xx s fun _ s1 => E.nx s1
def fRaise (n : Str) : FS := fun E s => E.xx n s
def putR (i : Nat) (r : R) (s : S) (k : S → Prop) : Prop :=
  match r with
  | .d x => k (s.set i (.d x))
  | .own v => k (s.set i v)
  | .top j => match asD (s.getD j .no) with
    | some x => k ((s.set j (.d x)).set i (.d x))
    | none => False
def fAsg (i : Nat) (a : FE) : FS := fun E s => a E.xx s fun r s1 => putR i r s1 E.nx
/-- a, b = e -/
def fUnp (g : FG) (a : FE) : FS := fun E s => a E.xx s fun r s1 => frz r s1 fun d s2 => g d s2 E.nx
/-- a, b = e1, e2 -/
def fPar (i j : Nat) (a : FA) : FS := fun E s => a E.xx s fun rs s2 => match rs with
  | [r1, r2] => frz r1 s2 fun d1 s3 => frz r2 s3 fun d2 s4 => E.nx ((s4.set i (.d d1)).set j (.d d2))
  | _ => False
def fLoop (g : FG) (wp : List Nat) (b : FS) (E : FEnds) : List D → S → Prop
  | [], s => E.nx s
  | x :: xs, s => g x s fun s1 => b { E with nx := fun s2 => fLoop g wp b E xs (wipeS s2 wp), ct := fun s2 => fLoop g wp b E xs (wipeS s2 wp), bk := fun s2 => E.nx (wipeS s2 wp) } s1
def fFor (it : FI) (g : FG) (wp : List Nat) (b : FS) : FS := fun E s => it E.xx s fun xs s1 => fLoop g wp b E xs (wipeS s1 wp)
/-- a list of a slot's own, changed by a method -/
def onL (i : Nat) (s : S) (k : List D → Prop) : Prop :=
  match s.getD i .no with
  | .l xs => k xs
  | _ => False
abbrev LM := List D → List D → (D → List D → Prop) → Prop
/-- a method of a slot's own list: what it gives, what the list holds behind it -/
def fLm (i : Nat) (g : LM) (a : FA) : FE := fun X s Q => onL i s fun _ => a X s fun rs s1 => frzAll rs s1 fun ds s2 => onL i s2 fun xs => g xs ds fun d xs' => Q (.d d) (s2.set i (.l xs'))
def mAppend : LM := fun xs ds k => match ds with
  | [d] => xs.length < sizeLine ∧ k .none (xs ++ [d])
  | _ => False
/-- xs[j] = e -/
def fSetIx (i : Nat) (j a : FE) : FS := fun E s => a E.xx s fun r s1 => onL i s1 fun _ => j E.xx s1 fun rj s2 => match rj with
  | .d (.int k) => frz r s2 fun d s3 => onL i s3 fun xs => 0 ≤ k ∧ k.toNat < xs.length ∧ E.nx (s3.set i (.l (xs.set k.toNat d)))
  | _ => False
def outR (r : R) (s : S) (k : R → S → Prop) : Prop :=
  match r with
  | .d x => k (.d x) s
  | .own v => k (.own v) s
  | .top i => k (.own (s.getD i .no)) (s.set i .no)
def semOf (np nl : Nat) (b : FS) : FSem := fun svs X Q => b { nx := fun s => Q (.d .none) (s.take np), rt := fun r s => outR r s fun r' s' => Q r' (s'.take np), xx := fun n s => X n (s.take np) } (svs ++ List.replicate (nl - np) .no)
end Hs
namespace Hs
open PySem PySem.Spec PyProof.Rows L2
section
variable {K : PySem.W.Frag} {Z Z' Y Y' H H' : Hp} {σ σ' : St} {s s' : S}
theorem Rel.take {ts : St} {us : S} (r : Rel K Z Y H (σ ++ ts) (s ++ us)) (hl : σ.length = s.length) : Rel K Z Y H σ s :=
  r.re (fun k => if k < σ.length then some k else none) hl (fun k => by
    by_cases h : k < σ.length
    · simp only [if_pos h]
      exact ⟨(getD_app_lt (by omega)).symm, (getD_app_lt h).symm⟩
    · simp only [if_neg h]
      exact .inl (getD_out (by omega))) (fun k k' j h h' => by
    by_cases a : k < σ.length
    · by_cases b : k' < σ.length
      · rw [if_pos a] at h; rw [if_pos b] at h'; cases h; cases h'; rfl
      · rw [if_neg b] at h'; cases h'
    · rw [if_neg a] at h; cases h)
theorem Rel.swap {σa σb σc : St} {sa sb sc : S} (r : Rel K Z Y H (σa ++ σb ++ σc) (sa ++ sb ++ sc)) (ha : σa.length = sa.length) (hb : σb.length = sb.length) : Rel K Z Y H (σa ++ σc ++ σb) (sa ++ sc ++ sb) := by
  have hl := r.len
  simp only [List.length_append] at hl
  refine r.re (fun k => if k < σa.length then some k else if k < σa.length + σc.length then some (k + σb.length) else if k < σa.length + σc.length + σb.length then some (k - σc.length) else none)
    (by simp only [List.length_append]; omega) (fun k => ?_) fun k k' j h h' => ?_
  · by_cases h1 : k < σa.length
    · simp only [if_pos h1]
      refine ⟨?_, ?_⟩
      · rw [List.append_assoc, List.append_assoc, getD_app_lt (by omega), getD_app_lt (by omega)]
      · rw [List.append_assoc, List.append_assoc, getD_app_lt h1, getD_app_lt h1]
    · simp only [if_neg h1]
      by_cases h2 : k < σa.length + σc.length
      · simp only [if_pos h2]
        refine ⟨?_, ?_⟩
        · rw [getD_app_lt (l := sa ++ sc) (by rw [List.length_append]; omega), getD_app_ge (by omega), getD_app_ge (by rw [List.length_append]; omega), List.length_append]
          congr 1; omega
        · rw [getD_app_lt (l := σa ++ σc) (by rw [List.length_append]; omega), getD_app_ge (by omega), getD_app_ge (by rw [List.length_append]; omega), List.length_append]
          congr 1; omega
      · simp only [if_neg h2]
        by_cases h3 : k < σa.length + σc.length + σb.length
        · simp only [if_pos h3]
          refine ⟨?_, ?_⟩
          · rw [getD_app_ge (l := sa ++ sc) (by rw [List.length_append]; omega), List.append_assoc sa sb sc, getD_app_ge (l := sa) (by omega), getD_app_lt (l := sb) (by omega), List.length_append]
            congr 1; omega
          · rw [getD_app_ge (l := σa ++ σc) (by rw [List.length_append]; omega), List.append_assoc σa σb σc, getD_app_ge (l := σa) (by omega), getD_app_lt (l := σb) (by omega), List.length_append]
            congr 1; omega
        · simp only [if_neg h3]
          exact .inl (getD_out (by simp only [List.length_append]; omega))
  · split at h <;> split at h' <;> (try split at h) <;> (try split at h') <;> (try split at h) <;> (try split at h') <;> (try cases h) <;> (try injection h with h) <;> (try injection h' with h') <;> (try omega) <;> (try cases h')
    all_goals omega
def Tops (σ : St) (vs : List V) (rs : List R) : Prop := ∀ (k i : Nat), rs[k]? = some (R.top i) → i < σ.length ∧ σ.getD i none = vs[k]?
structure RelX (K : PySem.W.Frag) (Z Y H : Hp) (σ : St) (s : S) (vs : List V) (rs : List R) : Prop where
  rel : Rel K Z Y H (σ ++ vs.map some) (s ++ rs.map svR)
  l1 : σ.length = s.length
  l2 : vs.length = rs.length
  top : Tops σ vs rs
theorem RelX.rel0 {vs : List V} {rs : List R} (r : RelX K Z Y H σ s vs rs) : Rel K Z Y H σ s := r.rel.take r.l1
theorem RelX.nil (r : Rel K Z Y H σ s) : RelX K Z Y H σ s [] [] := ⟨by simpa using r, r.len, rfl, fun k i h => by simp at h⟩
theorem Tops.one {v : V} {r : R} (h : ∀ i, r = .top i → i < σ.length ∧ σ.getD i none = some v) : Tops σ [v] [r] := fun k i e => by
  cases k with
  | zero => exact h i (by simpa using e)
  | succ k => simp at e
theorem RelX.d (r : Rel K Z Y H σ s) {v : V} {x : D} (h : Rp K Z v x) : RelX K Z Y H σ s [v] [.d x] :=
  ⟨r.pushD h, r.len, rfl, .one fun i e => nomatch e⟩
theorem RelX.tp (r : Rel K Z Y H σ s) {v : V} {i : Nat} (hi : i < σ.length) (h : σ.getD i none = some v) : RelX K Z Y H σ s [v] [.top i] :=
  ⟨r.pushN, r.len, rfl, .one fun j e => by cases e; exact ⟨hi, h⟩⟩
theorem RelX.own {v : V} {w : SV} (hl : σ.length = s.length) (r : Rel K Z Y H (σ ++ [some v]) (s ++ [w])) : RelX K Z Y H σ s [v] [.own w] :=
  ⟨r, hl, rfl, .one fun i e => nomatch e⟩
/-- results put aside while others come -/
theorem RelX.frame {vs : List V} {rs : List R} (r : RelX K Z Y H σ s vs rs) :
    ∃ Y', Same Y Y' ∧ Rel K Z Y' H σ s ∧ (∀ Z1 H1 σ1 s1, Same Z Z1 → Rel K Z1 Y' H1 σ1 s1 → Rel K Z1 Y H1 σ1 s1) ∧
      (∀ Z1 H1 s1 ws qs, Same Z Z1 → RelX K Z1 Y' H1 σ s1 ws qs → RelX K Z1 Y H1 σ s1 (vs ++ ws) (rs ++ qs)) := by
  obtain ⟨Y', hy, r1, back, _⟩ := r.rel.frame r.l1
  refine ⟨Y', hy, r1, fun Z1 H1 σ1 s1 hz q => (back Z1 H1 σ1 s1 hz q).take q.len, fun Z1 H1 s1 ws qs hz q => ?_⟩
  have b := back Z1 H1 _ _ hz q.rel
  refine ⟨?_, q.l1, by rw [List.length_append, List.length_append, r.l2, q.l2], fun k i e => ?_⟩
  · rw [List.map_append, List.map_append, ← List.append_assoc, ← List.append_assoc]
    exact b.swap q.l1 (by rw [List.length_map, List.length_map]; exact q.l2)
  · by_cases hk : k < rs.length
    · rw [List.getElem?_append_left hk] at e
      rw [List.getElem?_append_left (by rw [r.l2]; exact hk)]
      exact r.top k i e
    · rw [List.getElem?_append_right (by omega)] at e
      rw [List.getElem?_append_right (by rw [r.l2]; omega), r.l2]
      exact q.top _ i e
/-- a thing looked at: its own items stand in Z -/
def RpV (K : PySem.W.Frag) (Z H : Hp) (v : V) (d : D) : Prop :=
  Rp K Z v d ∨ (∃ p vs xs, v = .ref p ∧ d = .list xs ∧ H p = some (.lst vs) ∧ vs.length ≤ sizeLine ∧ RpAll K Z vs xs) ∨ ∃ p kvs, v = .ref p ∧ d = .dict kvs ∧ DcAt K Z H p kvs
theorem RpV.rp {v : V} {d : D} (r : RpV K Z H v d) (e : Same Z H) : Rp K H v d := by
  rcases r with r | ⟨p, vs, xs, rfl, rfl, h, z, a⟩ | ⟨p, kvs, rfl, rfl, h⟩
  · exact r.same e
  · exact .lst (.inl h) z (a.same e)
  · exact h.rp e
theorem RpV.list {v : V} {xs : List D} (r : RpV K Z H v (.list xs)) (e : Same Z H) : ∃ p vs, v = .ref p ∧ Rd H p (.lst vs) ∧ vs.length ≤ sizeLine ∧ RpAll K Z vs xs := by
  rcases r with r | ⟨p, vs, xs', rfl, e2, h, z, a⟩ | ⟨p, kvs, rfl, e2, h⟩
  · cases r with
    | lst h z a => exact ⟨_, _, rfl, same_rd e h, z, a⟩
  · cases e2; exact ⟨p, vs, rfl, .inl h, z, a⟩
  · cases e2
theorem RpV.tuple {v : V} {xs : List D} (r : RpV K Z H v (.tuple xs)) (e : Same Z H) : ∃ p vs, v = .ref p ∧ SqT K H p vs ∧ vs.length ≤ sizeLine ∧ RpAll K Z vs xs := by
  rcases r with r | ⟨p, vs, xs', rfl, e2, h, z, a⟩ | ⟨p, kvs, rfl, e2, h⟩
  · cases r with
    | tup h z a => exact ⟨_, _, rfl, tupSq (e _ _ h), z, a⟩
  · cases e2
  · cases e2
theorem keyD_ne (k : Key) : keyD k ≠ .none := by
  cases k <;> exact fun h => nomatch h
theorem RpK.nolit {ks : List (Key × V)} {x : D} {r : List (D × D)} (h : RpK K H ks ((.none, x) :: r)) : False := by
  generalize e : ((PyData.none, x) :: r) = l at h
  cases h with
  | nil => cases e
  | cons _ _ =>
    injection e with e1 _
    injection e1 with e2 _
    exact keyD_ne _ e2.symm
theorem RpT.nolit {ks : List (List Key × V)} {x : D} {r : List (D × D)} (h : RpT K H ks ((.none, x) :: r)) : False := by
  generalize e : ((PyData.none, x) :: r) = l at h
  cases h with
  | nil => cases e
  | cons _ _ =>
    injection e with e1 _
    injection e1 with e2 _
    cases e2
theorem RpV.lit {v : V} {xs : List D} (r : RpV K Z H v (.dict [(.none, .list xs)])) (e : Same Z H) : ∃ (p : Addr) (ns : List Int), v = .ref p ∧ xs = ns.map PyData.int ∧ SqL K H p (ns.map V.int) ∧ ns.length ≤ sizeLine := by
  rcases r with r | ⟨p, vs, xs', rfl, e2, h, z, a⟩ | ⟨p, kvs, rfl, e2, h⟩
  · generalize e0 : (PyData.dict [(.none, .list xs)]) = d at r
    cases r with
    | lit h z =>
      unfold litD at e0
      injection e0 with e1
      injection e1 with e2 _
      injection e2 with _ e3
      injection e3 with e4
      exact ⟨_, _, rfl, e4, e.seq h, z⟩
    | exc h =>
      unfold excD at e0
      injection e0 with e1
      injection e1 with e2 _
      injection e2 with _ e3
      cases e3
    | dcK h a => cases e0; exact a.nolit.elim
    | dcT h a => cases e0
    | obj h1 h2 a => cases e0
    | _ => cases e0
  · cases e2
  · cases e2
    rcases h with ⟨ks, e1, r⟩ | ⟨ks, kvs', e0, e1, r⟩
    · exact r.nolit.elim
    · cases e0
theorem RpV.int {v : V} {i : Int} (r : RpV K Z H v (.int i)) : v = .int i := by
  rcases r with r | ⟨p, vs, xs', rfl, e2, h, z, a⟩ | ⟨p, kvs, rfl, e2, h⟩
  · cases r; rfl
  · cases e2
  · cases e2
theorem RpV.bool {v : V} {i : Bool} (r : RpV K Z H v (.bool i)) : v = .bl i := by
  rcases r with r | ⟨p, vs, xs', rfl, e2, h, z, a⟩ | ⟨p, kvs, rfl, e2, h⟩
  · cases r; rfl
  · cases e2
  · cases e2
theorem RpV.str {v : V} {i : Str} (r : RpV K Z H v (.str i)) : v = .str i := by
  rcases r with r | ⟨p, vs, xs', rfl, e2, h, z, a⟩ | ⟨p, kvs, rfl, e2, h⟩
  · cases r; rfl
  · cases e2
  · cases e2
theorem RpV.non {v : V} (r : RpV K Z H v .none) : v = .non := by
  rcases r with r | ⟨p, vs, xs', rfl, e2, h, z, a⟩ | ⟨p, kvs, rfl, e2, h⟩
  · cases r; rfl
  · cases e2
  · cases e2
theorem SlotAt.view {v : Option V} {w : SV} {F : List Addr} {d : D} (h : SlotAt K Z H v w F) (e : viewS w = some d) : ∃ u, v = some u ∧ RpV K Z H u d := by
  cases w with
  | no => cases e
  | d x => cases e; obtain ⟨_, u, h2, r⟩ := h; exact ⟨u, h2, .inl r⟩
  | l xs => cases e; obtain ⟨p, vs, h1, h2, h3, h4, h5⟩ := h; exact ⟨_, h1, .inr (.inl ⟨p, vs, xs, rfl, rfl, h3, h4, h5⟩)⟩
  | ll xss => cases e
  | dc kvs => cases e; obtain ⟨p, h1, h2, h3⟩ := h; exact ⟨_, h1, .inr (.inr ⟨p, kvs, rfl, rfl, h3⟩)⟩
  | ob c fs => cases e
  | tp ws => cases e
  | lo ws => cases e
theorem Rel.slot (r : Rel K Z Y H σ s) (i : Nat) : ∃ F, SlotAt K Z H (σ.getD i none) (s.getD i .no) F := let ⟨F, o⟩ := r.own; ⟨F i, o.at_ i⟩
theorem RelX.look {vs : List V} {rs : List R} (r : RelX K Z Y H σ s vs rs) {k : Nat} {q : R} {d : D} (hk : rs[k]? = some q) (e : viewR s q = some d) : ∃ v, vs[k]? = some v ∧ RpV K Z H v d := by
  have hlt : k < rs.length := (List.getElem?_eq_some_iff.mp hk).1
  have sl : ∃ F, SlotAt K Z H (vs[k]?) (svR q) F := by
    obtain ⟨F, h⟩ := r.rel.slot (σ.length + k)
    refine ⟨F, ?_⟩
    rw [getD_app_ge (by omega), getD_app_ge (by have := r.l1; omega), ← r.l1, Nat.add_sub_cancel_left] at h
    have e1 : (rs.map svR).getD k .no = svR q := by rw [List.getD_eq_getElem?_getD, List.getElem?_map, hk]; rfl
    have e2 : (vs.map some).getD k none = vs[k]? := by
      rw [List.getD_eq_getElem?_getD, List.getElem?_map]
      cases vs[k]? <;> rfl
    rw [e1, e2] at h
    exact h
  cases q with
  | d x =>
    cases e
    obtain ⟨F, h⟩ := sl
    exact h.view rfl
  | own w =>
    obtain ⟨F, h⟩ := sl
    exact h.view e
  | top i =>
    obtain ⟨_, h1⟩ := r.top k i hk
    obtain ⟨F, h⟩ := r.rel0.slot i
    rw [h1] at h
    exact h.view e
structure NewR (K : PySem.W.Frag) (Z H Z' H' : Hp) (u : V) (r : R) : Prop where
  hh : Same H H'
  hz : Same Z Z'
  zh : Same Z' H'
  old : ∀ a, H a ≠ none → Z' a = Z a
  val : match r with
    | .d x => Rp K Z' u x
    | .own w => ∃ F : List Addr, SlotAt K Z' H' (some u) w F ∧ F.Nodup ∧ ∀ a ∈ F, H a = none ∧ Z' a = none
    | .top _ => False
theorem NewR.d {u : V} {x : D} (e : Same Z H) (h : Rp K Z u x) : NewR K Z H Z H u (.d x) := ⟨Same.refl _, Same.refl _, e, fun _ _ => rfl, h⟩
theorem NewR.tup {p : Addr} {vs : List V} {xs : List D} (e : Same Z H) (hp : H p = none) (z : vs.length ≤ sizeLine) (h : RpAll K Z vs xs) : NewR K Z H (upd Z p (.tup vs)) (upd H p (.tup vs)) (.ref p) (.d (.tuple xs)) :=
  have zp : Z p = none := e.free hp
  ⟨same_upd hp, same_upd zp, fun b x q => by
    by_cases hb : b = p
    · subst hb; rw [upd_same] at q ⊢; exact q
    · rw [upd_ne hb] at q ⊢; exact e b x q, fun a ha => upd_ne fun z => ha (z ▸ hp), .tup upd_same z (h.same (same_upd zp))⟩
theorem NewR.lst {p : Addr} {vs : List V} {xs : List D} (e : Same Z H) (hp : H p = none) (z : vs.length ≤ sizeLine) (h : RpAll K Z vs xs) : NewR K Z H Z (upd H p (.lst vs)) (.ref p) (.own (.l xs)) :=
  ⟨same_upd hp, Same.refl _, e.trans (same_upd hp), fun _ _ => rfl, [p], ⟨p, vs, rfl, rfl, upd_same, z, h⟩, by simp, fun a ha => by
    obtain rfl : a = p := by simpa using ha
    exact ⟨hp, e.free hp⟩⟩
theorem Rel.new (r : Rel K Z Y H σ s) {u : V} {q : R} (n : NewR K Z H Z' H' u q) : RelX K Z' Y H' σ s [u] [q] := by
  cases q with
  | d x => exact .d (r.grow n.hh n.hz n.zh n.old) n.val
  | own w =>
    obtain ⟨F, h1, h2, h3⟩ := n.val
    exact .own r.len (r.push n.hh n.hz n.zh n.old h1 h2 h3)
  | top i => exact n.val.elim
end
structure Lv where
  E : WX
  io : List Nat
  σ0 : St
def Lv.keeps (L : Lv) (σ : St) : Prop := σ.length = L.σ0.length ∧ ∀ k ∈ L.io, σ.getD k none = L.σ0.getD k none
def XOk (X : Cx) (L : Lv) (Z Y : Hp) (Xf : XF) : Prop := ∀ n C Z' H' σ' s', Same Z Z' → L.keeps σ' → Rel X.K Z' Y H' σ' s' → Xf n s' → X.mg n = some (.ref C) → L.E (.ref C) none σ' H'
theorem XOk.mono {X : Cx} {L : Lv} {Z Z1 Y Y1 : Hp} {Xf : XF} (h : XOk X L Z Y Xf) (hz : Same Z Z1) (back : ∀ Z' H' σ' s', Same Z1 Z' → Rel X.K Z' Y1 H' σ' s' → Rel X.K Z' Y H' σ' s') : XOk X L Z1 Y1 Xf :=
  fun n C Z' H' σ' s' hz' k r q m => h n C Z' H' σ' s' (hz.trans hz') k (back Z' H' σ' s' hz' r) q m
theorem XOk.z {X : Cx} {L : Lv} {Z Z1 Y : Hp} {Xf : XF} (h : XOk X L Z Y Xf) (hz : Same Z Z1) : XOk X L Z1 Y Xf := h.mono hz fun _ _ _ _ _ r => r
def liftE (X : Cx) (L : Lv) (fe : FE) : TE := fun σ H Q => ∃ Z Y s Xf Qf, Rel X.K Z Y H σ s ∧ L.keeps σ ∧ XOk X L Z Y Xf ∧ fe Xf s Qf ∧ ∀ v H' Z' r s', Same Z Z' → RelX X.K Z' Y H' σ s' [v] [r] → Qf r s' → Q v H'
def liftT (X : Cx) (L : Lv) (ft : FT) : TT := fun σ H Q => ∃ Z Y s Xf Qf, Rel X.K Z Y H σ s ∧ L.keeps σ ∧ XOk X L Z Y Xf ∧ ft Xf s Qf ∧ ∀ b H' Z' s', Same Z Z' → Rel X.K Z' Y H' σ s' → Qf b s' → Q b H'
def liftA (X : Cx) (L : Lv) (n : Nat) (fa : FA) : TA := fun σ H Q => ∃ Z Y s Xf Qf, Rel X.K Z Y H σ s ∧ L.keeps σ ∧ XOk X L Z Y Xf ∧ fa Xf s Qf ∧ ∀ vs H' Z' rs s', Same Z Z' → RelX X.K Z' Y H' σ s' vs rs → rs.length = n → Qf rs s' → Q vs H'
structure EndsOk (X : Cx) (L : Lv) (Z Y : Hp) (Ef : FEnds) (D : Ends) : Prop where
  nx : ∀ σ' H' Z' s', Same Z Z' → L.keeps σ' → Rel X.K Z' Y H' σ' s' → Ef.nx s' → D.nx σ' H'
  rt : ∀ v σ' H' Z' r s', Same Z Z' → L.keeps σ' → RelX X.K Z' Y H' σ' s' [v] [r] → Ef.rt r s' → D.rt v H'
  bk : ∀ σ' H' Z' s', Same Z Z' → L.keeps σ' → Rel X.K Z' Y H' σ' s' → Ef.bk s' → D.bk σ' H'
  ct : ∀ σ' H' Z' s', Same Z Z' → L.keeps σ' → Rel X.K Z' Y H' σ' s' → Ef.ct s' → D.ct σ' H'
  xx : XOk X L Z Y Ef.xx
theorem EndsOk.z {X : Cx} {L : Lv} {Z Z1 Y : Hp} {Ef : FEnds} {D : Ends} (h : EndsOk X L Z Y Ef D) (hz : Same Z Z1) : EndsOk X L Z1 Y Ef D :=
  ⟨fun σ' H' Z' s' e => h.nx σ' H' Z' s' (hz.trans e), fun v σ' H' Z' r s' e => h.rt v σ' H' Z' r s' (hz.trans e), fun σ' H' Z' s' e => h.bk σ' H' Z' s' (hz.trans e), fun σ' H' Z' s' e => h.ct σ' H' Z' s' (hz.trans e), h.xx.z hz⟩
def liftS (X : Cx) (L : Lv) (fs : FS) : TS := fun D σ H => ∃ Z Y s Ef, Rel X.K Z Y H σ s ∧ L.keeps σ ∧ fs Ef s ∧ EndsOk X L Z Y Ef D
def PF (X : Cx) (L : Lv) (e : Expr) (fe : FE) : Prop := PE X e (liftE X L fe)
def PFT (X : Cx) (L : Lv) (e : Expr) (ft : FT) : Prop := PT X e (liftT X L ft)
def PFW (X : Cx) (L : Lv) (e : Expr) (ft : FT) : Prop := PW X e (liftT X L ft)
def PFA (X : Cx) (L : Lv) (es : List Expr) (fa : FA) : Prop := PA X es (liftA X L es.length fa)
def PFS (X : Cx) (L : Lv) (st : Stmt) (fs : FS) : Prop := PS X st (liftS X L fs)
def PFSs (X : Cx) (L : Lv) (sts : List Stmt) (fs : FS) : Prop := PSs X sts (liftS X L fs)
section
variable {X : Cx} {L : Lv} {e a b c : Expr} {es : List Expr} {fa fb fc : FE} {fr : FA} {pos p : Pos}
theorem PE_imp {t t' : TE} (h : PE X e t) (hi : ∀ σ H Q, t' σ H Q → t σ H Q) : PE X e t' := ⟨fun pins s σ H Q I q => h.run pins s σ H Q I (hi σ H Q q)⟩
theorem PT_imp {t t' : TT} (h : PT X e t) (hi : ∀ σ H Q, t' σ H Q → t σ H Q) : PT X e t' := ⟨fun pins s σ H Q I q => h.run pins s σ H Q I (hi σ H Q q)⟩
theorem PW_imp {t t' : TT} (h : PW X e t) (hi : ∀ σ H Q, t' σ H Q → t σ H Q) : PW X e t' := ⟨fun w pins s σ H Q I q => h.run w pins s σ H Q I (hi σ H Q q)⟩
theorem PA_imp {t t' : TA} (h : PA X es t) (hi : ∀ σ H Q, t' σ H Q → t σ H Q) : PA X es t' := ⟨fun ps pins s σ H Q I q => h.run ps pins s σ H Q I (hi σ H Q q)⟩
theorem PS_imp {st : Stmt} {t t' : TS} (h : PS X st t) (hi : ∀ D σ H, t' D σ H → t D σ H) : PS X st t' := ⟨fun pins s σ H D I q => h.run pins s σ H D I (hi D σ H q)⟩
theorem PSs_imp {st : List Stmt} {t t' : TS} (h : PSs X st t) (hi : ∀ D σ H, t' D σ H → t D σ H) : PSs X st t' := ⟨fun pins s σ H D I q => h.run pins s σ H D I (hi D σ H q)⟩
theorem getD_some {α : Type} {l : List (Option α)} {i : Nat} {v : α} (h : l.getD i none = some v) : l[i]? = some (some v) := by
  rw [List.getD_eq_getElem?_getD] at h
  cases e : l[i]? with
  | none => rw [e] at h; cases h
  | some o => rw [e] at h; rw [show o = some v from h]
theorem getD_lt {α : Type} {l : List (Option α)} {i : Nat} {v : α} (h : l.getD i none = some v) : i < l.length := (List.getElem?_eq_some_iff.mp (getD_some h)).1
theorem pf_var (i : Nat) {x : Str} (hN : X.N[i]? = some x := by rfl) (hv : Vis X.env.scope x := by first | exact Or.inl rfl | exact Or.inr (Or.inl rfl) | exact Or.inr (Or.inr rfl)) (hd : (x == ("__debug__" : Str)) = false := by decide)
    (hcd : (x == ("__classdict__" : Str)) = false := by decide) : PF X L (.Name x pos) (fVar i) := PE_imp (pe_var hN hv hd hcd) fun σ H Q ⟨Z, Y, s, Xf, Qf, r, k, xo, h, q⟩ => by
  obtain ⟨F, sl⟩ := r.slot i
  unfold fVar at h
  generalize hs : s.getD i .no = w at h sl
  have tp : ∀ p : V, σ.getD i none = some p → Qf (.top i) s → ∃ v, σ[i]? = some (some v) ∧ Q v H := fun p e h => ⟨p, getD_some e, q p H Z _ s (Same.refl _) (.tp r (getD_lt e) e) h⟩
  cases w with
  | no => exact h.elim
  | d x =>
    obtain ⟨_, u, h2, rp⟩ := sl
    exact ⟨u, getD_some h2, q u H Z _ s (Same.refl _) (.d r rp) h⟩
  | l xs => obtain ⟨p, vs, h1, _⟩ := sl; exact tp _ h1 h
  | ll xs => obtain ⟨p, vs, h1, _⟩ := sl; exact tp _ h1 h
  | dc xs => obtain ⟨p, h1, _⟩ := sl; exact tp _ h1 h
  | ob c fs => obtain ⟨p, dx, vs, G, h1, _⟩ := sl; exact tp _ h1 h
  | tp ws => obtain ⟨p, vs, h1, _⟩ := sl; exact tp _ h1 h
  | lo ws => obtain ⟨p, vs, G, h1, _⟩ := sl; exact tp _ h1 h
theorem pf_C {v : V} {x : D} (h : PE X e (tC v)) (r : ∀ Z, Rp X.K Z v x) : PF X L e (fC x) := PE_imp h fun σ H Q ⟨Z, Y, s, Xf, Qf, rl, k, xo, h, q⟩ => q v H Z _ s (Same.refl _) (.d rl (r Z)) h
theorem pf_int {i : Int} {j pos} : PF X L (.Constant (.int i) j pos) (fC (.int i)) := pf_C pe_int fun _ => .int i
theorem pf_bl {i : Bool} {j pos} : PF X L (.Constant (.bool i) j pos) (fC (.bool i)) := pf_C pe_bl fun _ => .bl i
theorem pf_non {j pos} : PF X L (.Constant .none j pos) (fC .none) := pf_C pe_non fun _ => .non
theorem pf_str {i : Str} {j pos} : PF X L (.Constant (.str i) j pos) (fC (.str i)) := pf_C pe_str fun _ => .str i
theorem pf_nil : PFA X L [] fNil := PA_imp pa_nil fun σ H Q ⟨Z, Y, s, Xf, Qf, r, k, xo, h, q⟩ => q [] H Z [] s (Same.refl _) (.nil r) rfl h
theorem pf_cons (ha : PF X L e fa) (hr : PFA X L es fr) (hs : starEach (e :: es) X.env = (false, eval e X.env) :: starEach es X.env := by rfl) : PFA X L (e :: es) (fCons fa fr) :=
  PA_imp (pa_cons ha hr hs) fun σ H Q ⟨Z, Y, s, Xf, Qf, r, k, xo, h, q⟩ => by
  refine ⟨Z, Y, s, Xf, _, r, k, xo, h, fun v H1 Z1 r1 s1 hz rx h1 => ?_⟩
  obtain ⟨Y', hy, rl, bk, fw⟩ := rx.frame
  refine ⟨Z1, Y', s1, Xf, _, rl, k, (xo.z hz).mono (Same.refl _) bk, h1, fun vs H2 Z2 rs s2 hz2 rx2 hn h2 => ?_⟩
  exact q (v :: vs) H2 Z2 (r1 :: rs) s2 (hz.trans hz2) (fw Z2 H2 s2 vs rs hz2 rx2) (by rw [List.length_cons, hn]; rfl) h2
theorem frz_ok {K : PySem.W.Frag} {Z Y H : Hp} {σ : St} {s : S} {us vs : List V} {ds : List D} {r : R} {rs : List R} {v : V} {k : D → S → Prop} (rx : RelX K Z Y H σ s (us ++ v :: vs) (ds.map R.d ++ r :: rs)) (hl : us.length = ds.length) (h : frz r s k) :
    ∃ Z' d s', Same Z Z' ∧ RelX K Z' Y H σ s' (us ++ v :: vs) (ds.map R.d ++ .d d :: rs) ∧ k d s' := by
  have hlu : (us.map some).length = (ds.map R.d).length := by rw [List.length_map, List.length_map, hl]
  have ix : ∀ (q : R), (ds.map R.d ++ q :: rs)[us.length]? = some q := fun q => by
    rw [List.getElem?_append_right (by rw [List.length_map, hl]; exact Nat.le_refl _), List.length_map, hl, Nat.sub_self]; rfl
  have iv : (us ++ v :: vs)[us.length]? = some v := by
    rw [List.getElem?_append_right (Nat.le_refl _), Nat.sub_self]; rfl
  have topsD : ∀ d σ', Tops σ (us ++ v :: vs) (ds.map R.d ++ r :: rs) → σ' = σ → Tops σ' (us ++ v :: vs) (ds.map R.d ++ .d d :: rs) := fun d σ' t e k i hk => by
    subst e
    by_cases hk0 : k = us.length
    · subst hk0
      rw [ix] at hk; cases hk
    · have : (ds.map R.d ++ r :: rs)[k]? = (ds.map R.d ++ .d d :: rs)[k]? := by
        by_cases hlt : k < us.length
        · rw [List.getElem?_append_left (by rw [List.length_map]; omega), List.getElem?_append_left (by rw [List.length_map]; omega)]
        · rw [List.getElem?_append_right (by rw [List.length_map]; omega), List.getElem?_append_right (by rw [List.length_map]; omega), List.length_map]
          have : k - ds.length = (k - ds.length - 1) + 1 := by omega
          rw [this]; rfl
      exact t k i (this.trans hk)
  cases r with
  | d x => exact ⟨Z, x, s, Same.refl _, rx, h⟩
  | own w =>
    unfold frz at h
    dsimp only at h
    cases e : asD w with
    | none => rw [e] at h; exact h.elim
    | some x =>
      rw [e] at h
      have sl : (s ++ (ds.map R.d ++ .own w :: rs).map svR).getD (s.length + us.length) .no = w := by
        rw [getD_app_ge (by omega), Nat.add_sub_cancel_left, List.getD_eq_getElem?_getD, List.getElem?_map, ix]; rfl
      obtain ⟨Z', hz, rl⟩ := rx.rel.freeze (i := s.length + us.length) (x := x) (by rw [sl]; exact e)
      refine ⟨Z', x, s, hz, ⟨?_, rx.l1, ?_, topsD x σ rx.top rfl⟩, h⟩
      · have : (s ++ (ds.map R.d ++ .own w :: rs).map svR).set (s.length + us.length) (.d x) = s ++ (ds.map R.d ++ .d x :: rs).map svR := by
          rw [List.set_append_right _ _ (by omega), Nat.add_sub_cancel_left, List.map_append, List.map_append, List.set_append_right _ _ (by simp [hl]), List.length_map, List.length_map, hl, Nat.sub_self]
          rfl
        rw [this] at rl
        exact rl
      · have := rx.l2
        simp only [List.length_append, List.length_cons] at this ⊢
        exact this
  | top i =>
    unfold frz at h
    dsimp only at h
    cases e : asD (s.getD i .no) with
    | none => rw [e] at h; exact h.elim
    | some x =>
      rw [e] at h
      obtain ⟨hi, hv⟩ := rx.top us.length i (ix _)
      rw [iv] at hv
      have his : i < s.length := by rw [← rx.l1]; exact hi
      obtain ⟨Z', hz, rl⟩ := rx.rel.freeze (i := i) (x := x) (by rw [getD_app_lt his]; exact e)
      rw [List.set_append_left _ _ his] at rl
      refine ⟨Z', x, s.set i (.d x), hz, ⟨?_, by rw [List.length_set]; exact rx.l1, ?_, topsD x σ rx.top rfl⟩, h⟩
      · have rpx : Rp K Z' v x := by
          obtain ⟨F, q⟩ := rl.slot i
          rw [getD_app_lt (by omega), getD_app_lt (by rw [List.length_set]; exact his), getD_set_self his, hv] at q
          obtain ⟨_, u, e1, rp⟩ := q
          cases e1
          exact rp
        have hlen : ((s.set i (.d x)) ++ (ds.map R.d ++ .top i :: rs).map svR).length = ((s.set i (.d x)) ++ (ds.map R.d ++ .d x :: rs).map svR).length := by simp
        refine rl.re (fun k => if k = s.length + us.length then none else some k) (by have := rl.len; rw [hlen] at this; exact this) (fun k => ?_) (fun k k' j h h' => ?_)
        · by_cases hk : k = s.length + us.length
          · simp only [if_pos hk]
            refine .inr ⟨x, v, ?_, ?_, rpx⟩
            · rw [hk, getD_app_ge (by rw [List.length_set]; omega), List.length_set, Nat.add_sub_cancel_left, List.getD_eq_getElem?_getD, List.getElem?_map, ix]; rfl
            · rw [hk, getD_app_ge (by have := rx.l1; omega), rx.l1, Nat.add_sub_cancel_left, List.getD_eq_getElem?_getD, List.getElem?_map, iv]; rfl
          · simp only [if_neg hk]
            refine ⟨?_, trivial⟩
            by_cases hlt : k < s.length
            · rw [getD_app_lt (by rw [List.length_set]; exact hlt), getD_app_lt (by rw [List.length_set]; exact hlt)]
            · rw [getD_app_ge (by rw [List.length_set]; omega), getD_app_ge (by rw [List.length_set]; omega), List.length_set, List.map_append, List.map_append]
              by_cases hlt2 : k - s.length < us.length
              · rw [getD_app_lt (by simp; omega), getD_app_lt (by simp; omega)]
              · rw [getD_app_ge (by simp; omega), getD_app_ge (by simp; omega)]
                have : k - s.length - (List.map svR (ds.map R.d)).length = (k - s.length - (List.map svR (ds.map R.d)).length - 1) + 1 := by simp; omega
                rw [this]
                rfl
        · by_cases e1 : k = s.length + us.length
          · rw [if_pos e1] at h; cases h
          · by_cases e2 : k' = s.length + us.length
            · rw [if_pos e2] at h'; cases h'
            · rw [if_neg e1] at h; rw [if_neg e2] at h'; cases h; cases h'; rfl
      · have := rx.l2
        simp only [List.length_append, List.length_cons] at this ⊢
        exact this
theorem frzAll_ok {K : PySem.W.Frag} {Y H : Hp} {σ : St} : ∀ {rs : List R} {vs : List V} {us : List V} {ds : List D} {Z : Hp} {s : S} {k : List D → S → Prop}, RelX K Z Y H σ s (us ++ vs) (ds.map R.d ++ rs) → us.length = ds.length → frzAll rs s k →
    ∃ Z' es s', Same Z Z' ∧ RelX K Z' Y H σ s' (us ++ vs) ((ds ++ es).map R.d) ∧ k es s'
  | [], vs, us, ds, Z, s, k, rx, hl, h => by
    refine ⟨Z, [], s, Same.refl _, ?_, h⟩
    simpa using rx
  | r :: rs, [], us, ds, Z, s, k, rx, hl, h => by
    have := rx.l2
    simp at this
    omega
  | r :: rs, v :: vs, us, ds, Z, s, k, rx, hl, h => by
    obtain ⟨Z1, d, s1, hz, rx1, h1⟩ := frz_ok rx hl h
    have e1 : us ++ v :: vs = (us ++ [v]) ++ vs := by simp
    have e2 : ds.map R.d ++ .d d :: rs = (ds ++ [d]).map R.d ++ rs := by simp
    rw [e1, e2] at rx1
    obtain ⟨Z2, es, s2, hz2, rx2, h2⟩ := frzAll_ok rx1 (by simp [hl]) h1
    refine ⟨Z2, d :: es, s2, hz.trans hz2, ?_, h2⟩
    rw [e1]
    simpa using rx2
theorem RelX.rps {K : PySem.W.Frag} {Z Y H : Hp} {σ : St} {s : S} : ∀ {vs : List V} {ds : List D}, RelX K Z Y H σ s vs (ds.map R.d) → RpAll K Z vs ds := by
  intro vs ds r
  have hl := r.l2
  rw [List.length_map] at hl
  have at_ : ∀ i v d, vs[i]? = some v → ds[i]? = some d → Rp K Z v d := fun i v d h1 h2 => by
    obtain ⟨F, q⟩ := r.rel.slot (σ.length + i)
    rw [getD_app_ge (by omega), getD_app_ge (by have := r.l1; omega), ← r.l1, Nat.add_sub_cancel_left, List.getD_eq_getElem?_getD, List.getD_eq_getElem?_getD, List.getElem?_map, List.getElem?_map, List.getElem?_map, h1, h2] at q
    obtain ⟨_, u, e1, rp⟩ := q
    cases e1
    exact rp
  clear r
  induction vs generalizing ds with
  | nil =>
    cases ds with
    | nil => exact .nil
    | cons d ds => simp at hl
  | cons v vs ih =>
    cases ds with
    | nil => simp at hl
    | cons d ds => exact .cons (at_ 0 v d rfl rfl) (ih (by simpa using hl) fun i v' d' h1 h2 => at_ (i + 1) v' d' h1 h2)
theorem pf_tup {x1} (ha : PFA X L es fr) (hn : es.length ≤ sizeLine := by show _ ≤ 16777216; decide) : PF X L (.Tuple es x1 pos) (fTup fr) := PE_imp (pe_tup ha) fun σ H Q ⟨Z, Y, s, Xf, Qf, r, k, xo, h, q⟩ => by
  refine ⟨Z, Y, s, Xf, _, r, k, xo, h, fun vs H1 Z1 rs s1 hz rx hl h1 => ?_⟩
  refine ⟨by rw [rx.l2, hl]; exact hn, fun p hp => ?_⟩
  obtain ⟨Z2, ds, s2, hz2, rx2, h2⟩ := frzAll_ok (us := []) (ds := []) rx rfl h1
  have n : NewR X.K Z2 H1 (upd Z2 p (.tup vs)) (upd H1 p (.tup vs)) (.ref p) (.d (.tuple ds)) := .tup rx2.rel0.zh hp (by rw [rx.l2, hl]; exact hn) rx2.rps
  exact q (.ref p) _ _ _ s2 ((hz.trans hz2).trans n.hz) (rx2.rel0.new n) h2
theorem pf_lst (ha : PFA X L es fr) (hn : es.length ≤ sizeLine := by show _ ≤ 16777216; decide) : PF X L (.List es pos) (fLst fr) := PE_imp (pe_lst ha) fun σ H Q ⟨Z, Y, s, Xf, Qf, r, k, xo, h, q⟩ => by
  refine ⟨Z, Y, s, Xf, _, r, k, xo, h, fun vs H1 Z1 rs s1 hz rx hl h1 => ?_⟩
  refine ⟨by rw [rx.l2, hl]; exact hn, fun p hp => ?_⟩
  obtain ⟨Z2, ds, s2, hz2, rx2, h2⟩ := frzAll_ok (us := []) (ds := []) rx rfl h1
  have n : NewR X.K Z2 H1 Z2 (upd H1 p (.lst vs)) (.ref p) (.own (.l ds)) := .lst rx2.rel0.zh hp (by rw [rx.l2, hl]; exact hn) rx2.rps
  exact q (.ref p) _ _ _ s2 ((hz.trans hz2).trans n.hz) (rx2.rel0.new n) h2
def rF2 (K : PySem.W.Frag) (g : V2) : R2 := fun x y H Q => ∃ Z d e Qf, Same Z H ∧ RpV K Z H x d ∧ RpV K Z H y e ∧ g d e Qf ∧ ∀ u H' Z' r, NewR K Z H Z' H' u r → Qf r → Q u H'
theorem look_ok {s : S} {r : R} {k : D → Prop} (h : look s r k) : ∃ d, viewR s r = some d ∧ k d := by
  unfold look at h
  cases e : viewR s r with
  | none => rw [e] at h; exact h.elim
  | some d => rw [e] at h; exact ⟨d, rfl, h⟩
theorem fOp_ok {g : V2} {σ : St} {H : Hp} {Q : VK} (h : liftE X L (fOp g fa fb) σ H Q) : tOp (rF2 X.K g) (liftE X L fa) (liftE X L fb) σ H Q := by
  obtain ⟨Z, Y, s, Xf, Qf, r, k, xo, h, q⟩ := h
  refine ⟨Z, Y, s, Xf, _, r, k, xo, h, fun v H1 Z1 r1 s1 hz rx h1 => ?_⟩
  obtain ⟨Y', hy, rl, bk, fw⟩ := rx.frame
  refine ⟨Z1, Y', s1, Xf, _, rl, k, (xo.z hz).mono (Same.refl _) bk, h1, fun w H2 Z2 r2 s2 hz2 rx2 h2 => ?_⟩
  have rx3 := fw Z2 H2 s2 [w] [r2] hz2 rx2
  obtain ⟨d, e1, h3⟩ := look_ok h2
  obtain ⟨e, e2, h4⟩ := look_ok h3
  obtain ⟨v', ev, rv⟩ := rx3.look (k := 0) rfl e1
  obtain ⟨w', ew, rw'⟩ := rx3.look (k := 1) rfl e2
  cases ev; cases ew
  exact ⟨Z2, d, e, _, rx3.rel0.zh, rv, rw', h4, fun u H' Z' r n hq => q u H' Z' r s2 ((hz.trans hz2).trans n.hz) (rx3.rel0.new n) hq⟩
theorem pf_op {op : Operator} {g : V2} (ho : OpR X (binaryOp op) (rF2 X.K g)) (ha : PF X L a fa) (hb : PF X L b fb) : PF X L (.BinOp a op b pos) (fOp g fa fb) := PE_imp (pe_op ho ha hb) fun _ _ _ => fOp_ok
theorem pf_cmp {op : CmpOp} {g : V2} (ho : OpR X (compareOp op) (rF2 X.K g)) (ha : PF X L a fa) (hb : PF X L b fb) (hm : behindInMarks op b = false) : PF X L (.Compare a [op] [b] pos) (fOp g fa fb) := PE_imp (pe_cmpR ho ha hb hm) fun _ _ _ => fOp_ok
theorem pf_ix {g : V2} (hr : IxR X (rF2 X.K g)) (ha : PF X L a fa) (hb : PF X L b fb) (hs : PlainIx b := by exact fun _ _ => rfl) : PF X L (.Subscript a b pos) (fOp g fa fb) := PE_imp (pe_ix hr ha hb hs) fun _ _ _ => fOp_ok
end
end Hs
namespace Hs
open PySem PySem.Spec PyProof.Rows L2
section
variable {X : Cx} {L : Lv} {e a b c : Expr} {es : List Expr} {fa fb fc : FE} {ft fu : FT} {fr : FA} {pos p : Pos}
theorem isB_ok {r : R} {k : Bool → Prop} (h : isB r k) : ∃ c, r = .d (.bool c) ∧ k c := by
  cases r with
  | d x =>
    cases x with
    | bool c => exact ⟨c, rfl, h⟩
    | _ => exact h.elim
  | _ => exact h.elim
theorem RelX.vd {K : PySem.W.Frag} {Z Y H : Hp} {σ : St} {s : S} {v : V} {x : D} (r : RelX K Z Y H σ s [v] [.d x]) : Rp K Z v x := by
  have q := RelX.rps (ds := [x]) r
  cases q with
  | cons h _ => exact h
theorem RelX.vb {K : PySem.W.Frag} {Z Y H : Hp} {σ : St} {s : S} {v : V} {c : Bool} (r : RelX K Z Y H σ s [v] [.d (.bool c)]) : v = .bl c := by
  have q := r.vd
  cases q
  rfl
theorem RelX.vi {K : PySem.W.Frag} {Z Y H : Hp} {σ : St} {s : S} {v : V} {c : Int} (r : RelX K Z Y H σ s [v] [.d (.int c)]) : v = .int c := by
  have q := r.vd
  cases q
  rfl
theorem pf_one {op} (h : PF X L a fa) : PF X L (.BoolOp op [a] pos) fa := pe_one h
theorem pf_and {rest : List Expr} (ha : PF X L a fa) (hb : PF X L (.BoolOp .And (b :: rest) pos) fb) : PF X L (.BoolOp .And (a :: b :: rest) pos) (fAndV fa fb) := PE_imp (pe_and ha hb) fun σ H Q ⟨Z, Y, s, Xf, Qf, r, k, xo, h, q⟩ => by
  refine ⟨Z, Y, s, Xf, _, r, k, xo, h, fun v H1 Z1 r1 s1 hz rx h1 => ?_⟩
  obtain ⟨c, rfl, h2⟩ := isB_ok h1
  refine ⟨c, rx.vb, ?_⟩
  cases c with
  | true => exact ⟨Z1, Y, s1, Xf, _, rx.rel0, k, xo.z hz, h2, fun w H2 Z2 r2 s2 hz2 rx2 hq => q w H2 Z2 r2 s2 (hz.trans hz2) rx2 hq⟩
  | false => exact q _ H1 Z1 _ s1 hz (.d rx.rel0 (.bl false)) h2
theorem pf_or {rest : List Expr} (ha : PF X L a fa) (hb : PF X L (.BoolOp .Or (b :: rest) pos) fb) : PF X L (.BoolOp .Or (a :: b :: rest) pos) (fOrV fa fb) := PE_imp (pe_or ha hb) fun σ H Q ⟨Z, Y, s, Xf, Qf, r, k, xo, h, q⟩ => by
  refine ⟨Z, Y, s, Xf, _, r, k, xo, h, fun v H1 Z1 r1 s1 hz rx h1 => ?_⟩
  obtain ⟨c, rfl, h2⟩ := isB_ok h1
  refine ⟨c, rx.vb, ?_⟩
  cases c with
  | false => exact ⟨Z1, Y, s1, Xf, _, rx.rel0, k, xo.z hz, h2, fun w H2 Z2 r2 s2 hz2 rx2 hq => q w H2 Z2 r2 s2 (hz.trans hz2) rx2 hq⟩
  | true => exact q _ H1 Z1 _ s1 hz (.d rx.rel0 (.bl true)) h2
theorem pf_not (ha : PF X L a fa) : PF X L (.UnaryOp .Not a pos) (fNotV fa) := PE_imp (pe_not ha) fun σ H Q ⟨Z, Y, s, Xf, Qf, r, k, xo, h, q⟩ => by
  refine ⟨Z, Y, s, Xf, _, r, k, xo, h, fun v H1 Z1 r1 s1 hz rx h1 => ?_⟩
  obtain ⟨c, rfl, h2⟩ := isB_ok h1
  exact ⟨c, rx.vb, q _ H1 Z1 _ s1 hz (.d rx.rel0 (.bl _)) h2⟩
theorem pft_B (h : PF X L e fa) (he : ∀ whole, isTrue e X.env whole = (do let v ← whole; standAt e.pos; holding [v] (truthy v)) := by intro _; rfl) : PFT X L e (fB fa) := PT_imp (pt_val h he) fun σ H Q ⟨Z, Y, s, Xf, Qf, r, k, xo, h, q⟩ => by
  refine ⟨Z, Y, s, Xf, _, r, k, xo, h, fun v H1 Z1 r1 s1 hz rx h1 => ?_⟩
  obtain ⟨c, rfl, h2⟩ := isB_ok h1
  exact ⟨c, rx.vb, q _ H1 Z1 s1 hz rx.rel0 h2⟩
theorem pft_cmp {op : CmpOp} {g : V2} (ho : OpR X (compareOp op) (rF2 X.K g)) (ha : PF X L a fa) (hb : PF X L b fb) (hm : behindInMarks op b = false) : PFT X L (.Compare a [op] [b] pos) (fB (fOp g fa fb)) := PT_imp (pt_cmpR ho ha hb hm) fun σ H Q ⟨Z, Y, s, Xf, Qf, r, k, xo, h, q⟩ => by
  refine fOp_ok ⟨Z, Y, s, Xf, _, r, k, xo, h, fun v H1 Z1 r1 s1 hz rx h1 => ?_⟩
  obtain ⟨c, rfl, h2⟩ := isB_ok h1
  exact ⟨c, rx.vb, q _ H1 Z1 s1 hz rx.rel0 h2⟩
theorem pfw_and1 (ha : PFT X L a ft) : PFW X L (.BoolOp .And [a] pos) ft := pw_and1 ha
theorem pfw_or1 (ha : PFT X L a ft) : PFW X L (.BoolOp .Or [a] pos) ft := pw_or1 ha
theorem pfw_and {rest : List Expr} (ha : PFT X L a ft) (hb : PFW X L (.BoolOp .And (b :: rest) pos) fu) : PFW X L (.BoolOp .And (a :: b :: rest) pos) (fAnd ft fu) := PW_imp (pw_and ha hb) fun σ H Q ⟨Z, Y, s, Xf, Qf, r, k, xo, h, q⟩ => by
  refine ⟨Z, Y, s, Xf, _, r, k, xo, h, fun d H1 Z1 s1 hz rl h1 => ?_⟩
  cases d with
  | true => exact ⟨Z1, Y, s1, Xf, _, rl, k, xo.z hz, h1, fun w H2 Z2 s2 hz2 rx2 hq => q w H2 Z2 s2 (hz.trans hz2) rx2 hq⟩
  | false => exact q _ H1 Z1 s1 hz rl h1
theorem pfw_or {rest : List Expr} (ha : PFT X L a ft) (hb : PFW X L (.BoolOp .Or (b :: rest) pos) fu) : PFW X L (.BoolOp .Or (a :: b :: rest) pos) (fOr ft fu) := PW_imp (pw_or ha hb) fun σ H Q ⟨Z, Y, s, Xf, Qf, r, k, xo, h, q⟩ => by
  refine ⟨Z, Y, s, Xf, _, r, k, xo, h, fun d H1 Z1 s1 hz rl h1 => ?_⟩
  cases d with
  | false => exact ⟨Z1, Y, s1, Xf, _, rl, k, xo.z hz, h1, fun w H2 Z2 s2 hz2 rx2 hq => q w H2 Z2 s2 (hz.trans hz2) rx2 hq⟩
  | true => exact q _ H1 Z1 s1 hz rl h1
theorem pft_W (h : PFW X L e ft) : PFT X L e ft := PW.pt h
theorem pft_not (ha : PFT X L a ft) : PFT X L (.UnaryOp .Not a pos) (fNot ft) := PT_imp (pt_not ha) fun σ H Q ⟨Z, Y, s, Xf, Qf, r, k, xo, h, q⟩ =>
  ⟨Z, Y, s, Xf, _, r, k, xo, h, fun d H1 Z1 s1 hz rl h1 => q _ H1 Z1 s1 hz rl h1⟩
theorem RelX.app2 {K : PySem.W.Frag} {Z Y H : Hp} {σ : St} {s : S} {v w : V} {r q : R} (x : RelX K Z Y H σ s [v, w] [r, q]) : RelX K Z Y H σ s [w] [q] := by
  refine ⟨?_, x.l1, rfl, fun k i h => ?_⟩
  · refine x.rel.re (fun k => if k < σ.length then some k else if k = σ.length then some (k + 1) else none) (by have := x.l1; simp [this]) (fun k => ?_) (fun k k' j h h' => ?_)
    · have hl := x.l1
      by_cases h1 : k < σ.length
      · simp only [if_pos h1]
        exact ⟨by rw [getD_app_lt (by omega), getD_app_lt (by omega)], by rw [getD_app_lt h1, getD_app_lt h1]⟩
      · simp only [if_neg h1]
        by_cases h2 : k = σ.length
        · simp only [if_pos h2]
          subst h2
          refine ⟨?_, ?_⟩
          · rw [getD_app_ge (by omega), getD_app_ge (by omega)]
            have e1 : σ.length - s.length = 0 := by omega
            have e2 : σ.length + 1 - s.length = 1 := by omega
            rw [e1, e2]; rfl
          · rw [getD_app_ge (Nat.le_refl _), getD_app_ge (Nat.le_succ _)]
            have e1 : σ.length - σ.length = 0 := by omega
            have e2 : σ.length + 1 - σ.length = 1 := by omega
            rw [e1, e2]; rfl
        · simp only [if_neg h2]
          exact .inl (getD_out (by simp; omega))
    · by_cases a1 : k < σ.length
      · rw [if_pos a1] at h
        by_cases b1 : k' < σ.length
        · rw [if_pos b1] at h'; cases h; cases h'; rfl
        · rw [if_neg b1] at h'
          by_cases b2 : k' = σ.length
          · rw [if_pos b2] at h'; cases h; cases h'; omega
          · rw [if_neg b2] at h'; cases h'
      · rw [if_neg a1] at h
        by_cases a2 : k = σ.length
        · rw [if_pos a2] at h
          by_cases b1 : k' < σ.length
          · rw [if_pos b1] at h'; cases h; cases h'; omega
          · rw [if_neg b1] at h'
            by_cases b2 : k' = σ.length
            · omega
            · rw [if_neg b2] at h'; cases h'
        · rw [if_neg a2] at h; cases h
  · cases k with
    | zero => exact x.top 1 i h
    | succ k => simp at h
theorem fChain_ok {g g' : V2} {σ : St} {H : Hp} {Q : VK} (h : liftE X L (fChain g g' fa fb fc) σ H Q) : tChain (rF2 X.K g) (rF2 X.K g') (liftE X L fa) (liftE X L fb) (liftE X L fc) σ H Q := by
  obtain ⟨Z, Y, s, Xf, Qf, r, k, xo, h, q⟩ := h
  refine ⟨Z, Y, s, Xf, _, r, k, xo, h, fun v H1 Z1 r1 s1 hz rx h1 => ?_⟩
  obtain ⟨Y', hy, rl, bk, fw⟩ := rx.frame
  refine ⟨Z1, Y', s1, Xf, _, rl, k, (xo.z hz).mono (Same.refl _) bk, h1, fun w H2 Z2 r2 s2 hz2 rx2 h2 => ?_⟩
  have rx3 := fw Z2 H2 s2 [w] [r2] hz2 rx2
  obtain ⟨d, e1, h3⟩ := look_ok h2
  obtain ⟨e, e2, h4⟩ := look_ok h3
  obtain ⟨v', ev, rv⟩ := rx3.look (k := 0) rfl e1
  obtain ⟨w', ew, rw'⟩ := rx3.look (k := 1) rfl e2
  cases ev; cases ew
  refine ⟨Z2, d, e, _, rx3.rel0.zh, rv, rw', h4, fun u H3 Z3 r3 n hq => ?_⟩
  obtain ⟨c, rfl, h5⟩ := isB_ok hq
  have uv : u = .bl c := by have := n.val; cases this; rfl
  refine ⟨c, uv, ?_⟩
  have rx4 : RelX X.K Z3 Y H3 σ s2 [w] [r2] := by
    have y := rx3.app2
    exact ⟨y.rel.grow n.hh n.hz n.zh n.old, y.l1, y.l2, y.top⟩
  cases c with
  | false => exact q _ H3 Z3 _ s2 ((hz.trans hz2).trans n.hz) (.d rx4.rel0 (.bl false)) h5
  | true =>
    obtain ⟨Y2, hy2, rl2, bk2, fw2⟩ := rx4.frame
    refine ⟨Z3, Y2, s2, Xf, _, rl2, k, (xo.z ((hz.trans hz2).trans n.hz)).mono (Same.refl _) bk2, h5, fun x H4 Z4 r4 s4 hz4 rx5 h6 => ?_⟩
    have rx6 := fw2 Z4 H4 s4 [x] [r4] hz4 rx5
    obtain ⟨d', e3, h7⟩ := look_ok h6
    obtain ⟨e', e4, h8⟩ := look_ok h7
    obtain ⟨v3, ev3, rv3⟩ := rx6.look (k := 0) rfl e3
    obtain ⟨w3, ew3, rw3⟩ := rx6.look (k := 1) rfl e4
    cases ev3; cases ew3
    exact ⟨Z4, d', e', _, rx6.rel0.zh, rv3, rw3, h8, fun u5 H5 Z5 r5 n5 hq5 => q u5 H5 Z5 r5 s4 ((((hz.trans hz2).trans n.hz).trans hz4).trans n5.hz) (rx6.rel0.new n5) hq5⟩
theorem pf_chain {op op' : CmpOp} {g g' : V2} (ho : OpR X (compareOp op) (rF2 X.K g)) (ho' : OpR X (compareOp op') (rF2 X.K g')) (ha : PF X L a fa) (hb : PF X L b fb) (hc : PF X L c fc)
    (hm : lastMarks [op, op'] [b, c] = false := by with_unfolding_all rfl) : PF X L (.Compare a [op, op'] [b, c] pos) (fChain g g' fa fb fc) := PE_imp (pe_chain ho ho' ha hb hc hm) fun _ _ _ => fChain_ok
theorem pft_chain {op op' : CmpOp} {g g' : V2} (ho : OpR X (compareOp op) (rF2 X.K g)) (ho' : OpR X (compareOp op') (rF2 X.K g')) (ha : PF X L a fa) (hb : PF X L b fb) (hc : PF X L c fc)
    (hm : lastMarks [op, op'] [b, c] = false := by with_unfolding_all rfl) : PFT X L (.Compare a [op, op'] [b, c] pos) (fB (fChain g g' fa fb fc)) := PT_imp (pt_chain ho ho' ha hb hc hm) fun σ H Q ⟨Z, Y, s, Xf, Qf, r, k, xo, h, q⟩ => by
  refine fChain_ok ⟨Z, Y, s, Xf, _, r, k, xo, h, fun v H1 Z1 r1 s1 hz rx h1 => ?_⟩
  obtain ⟨c, rfl, h2⟩ := isB_ok h1
  exact ⟨c, rx.vb, q _ H1 Z1 s1 hz rx.rel0 h2⟩
variable {st : Stmt} {rest : List Stmt} {f1 f2 : FS}
theorem pfs_nil : PFSs X L [] fNext := PSs_imp pss_nil fun D σ H ⟨Z, Y, s, Ef, r, k, h, eo⟩ => eo.nx σ H Z s (Same.refl _) k r h
theorem pfs_cons (h1 : PFS X L st f1) (h2 : PFSs X L rest f2) : PFSs X L (st :: rest) (fSeq f1 f2) := PSs_imp (pss_cons h1 h2) fun D σ H ⟨Z, Y, s, Ef, r, k, h, eo⟩ =>
  ⟨Z, Y, s, _, r, k, h, ⟨fun σ' H' Z' s' hz k' r' h' => ⟨Z', Y, s', Ef, r', k', h', eo.z hz⟩, eo.rt, eo.bk, eo.ct, eo.xx⟩⟩
theorem pfs_one (h1 : PFS X L st f1) : PFSs X L [st] f1 := pss_one h1
theorem pfs_break : PFS X L (.Break pos) fBreak := PS_imp ps_break fun D σ H ⟨Z, Y, s, Ef, r, k, h, eo⟩ => eo.bk σ H Z s (Same.refl _) k r h
theorem pfs_expr (he : PF X L e fa) (hs : swapsWith e none pos.line X.env = pure false := by rfl) : PFS X L (.Expr e pos) (fDrop fa) := PS_imp (ps_expr he hs) fun D σ H ⟨Z, Y, s, Ef, r, k, h, eo⟩ =>
  ⟨Z, Y, s, Ef.xx, _, r, k, eo.xx, h, fun v H1 Z1 r1 s1 hz rx h1 => eo.nx σ H1 Z1 s1 hz k rx.rel0 h1⟩
theorem pfs_ret (he : PF X L e fa) : PFS X L (.Return (some e) pos) (fRet fa) := PS_imp (ps_ret he) fun D σ H ⟨Z, Y, s, Ef, r, k, h, eo⟩ =>
  ⟨Z, Y, s, Ef.xx, _, r, k, eo.xx, h, fun v H1 Z1 r1 s1 hz rx h1 => eo.rt v σ H1 Z1 r1 s1 hz k rx h1⟩
theorem pfs_if {sa sb : List Stmt} (hc : PFT X L c ft) (ha : PFSs X L sa f1) (hb : PFSs X L sb f2) : PFS X L (.If c sa sb pos) (fIfS ft f1 f2) := PS_imp (ps_if hc ha hb) fun D σ H ⟨Z, Y, s, Ef, r, k, h, eo⟩ => by
  refine ⟨Z, Y, s, Ef.xx, _, r, k, eo.xx, h, fun d H1 Z1 s1 hz rl h1 => ?_⟩
  cases d with
  | true => exact ⟨Z1, Y, s1, Ef, rl, k, h1, eo.z hz⟩
  | false => exact ⟨Z1, Y, s1, Ef, rl, k, h1, eo.z hz⟩
theorem Lv.keeps_set {σ : St} {i : Nat} {v : Option V} (k : L.keeps σ) (hi : i ∉ L.io) : L.keeps (σ.set i v) := ⟨by rw [List.length_set]; exact k.1, fun j hj => by
  rw [getD_set_ne (fun z : i = j => hi (by rw [z]; exact hj))]
  exact k.2 j hj⟩
/-- the last slot put into another one -/
theorem Rel.put {K : PySem.W.Frag} {Z Y H : Hp} {σ : St} {s : S} {v : V} {w : SV} (r : Rel K Z Y H (σ ++ [some v]) (s ++ [w])) (hl : σ.length = s.length) (i : Nat) : Rel K Z Y H (σ.set i (some v)) (s.set i w) := by
  by_cases hi : i < σ.length
  · refine r.re (fun k => if k < σ.length then (if k = i then some σ.length else some k) else none) (by simp [hl]) (fun k => ?_) (fun k k' j h h' => ?_)
    · by_cases h1 : k < σ.length
      · simp only [if_pos h1]
        by_cases h2 : k = i
        · subst h2
          simp only [if_pos rfl]
          refine ⟨?_, ?_⟩
          · rw [getD_set_self (by omega), getD_app_ge (by omega), hl, Nat.sub_self]; rfl
          · rw [getD_set_self hi, getD_app_ge (Nat.le_refl _), Nat.sub_self]; rfl
        · simp only [if_neg h2]
          exact ⟨by rw [getD_set_ne (Ne.symm h2), getD_app_lt (by omega)], by rw [getD_set_ne (Ne.symm h2), getD_app_lt h1]⟩
      · simp only [if_neg h1]
        exact .inl (getD_out (by simp; omega))
    · by_cases a1 : k < σ.length
      · rw [if_pos a1] at h
        by_cases b1 : k' < σ.length
        · rw [if_pos b1] at h'
          by_cases a2 : k = i
          · by_cases b2 : k' = i
            · omega
            · rw [if_pos a2] at h; rw [if_neg b2] at h'; cases h; cases h'; omega
          · rw [if_neg a2] at h
            by_cases b2 : k' = i
            · rw [if_pos b2] at h'; cases h; cases h'; omega
            · rw [if_neg b2] at h'; cases h; cases h'; rfl
        · rw [if_neg b1] at h'; cases h'
      · rw [if_neg a1] at h; cases h
  · rw [List.set_eq_of_length_le (by omega), List.set_eq_of_length_le (by omega)]
    exact r.take hl
/-- what has come, stored -/
theorem putR_ok {K : PySem.W.Frag} {Z Y H : Hp} {σ : St} {s : S} {v : V} {r : R} {i : Nat} {k : S → Prop} (rx : RelX K Z Y H σ s [v] [r]) (h : putR i r s k) : ∃ Z' s', Same Z Z' ∧ Rel K Z' Y H (σ.set i (some v)) s' ∧ k s' := by
  cases r with
  | d x => exact ⟨Z, _, Same.refl _, Rel.put rx.rel rx.l1 i, h⟩
  | own w => exact ⟨Z, _, Same.refl _, Rel.put rx.rel rx.l1 i, h⟩
  | top j =>
    unfold putR at h
    dsimp only at h
    cases e : asD (s.getD j .no) with
    | none => rw [e] at h; exact h.elim
    | some x =>
      rw [e] at h
      have h' : frz (.top j) s fun d s' => k (s'.set i (.d d)) := by
        unfold frz; dsimp only; rw [e]; exact h
      obtain ⟨Z', d, s', hz, rx', h2⟩ := frz_ok (us := []) (ds := []) (vs := []) (rs := []) rx rfl h'
      exact ⟨Z', _, hz, Rel.put rx'.rel rx'.l1 i, h2⟩
theorem pfs_set {i : Nat} {x : Str} {pos' : Pos} (hN : X.N.Nodup) (he : PF X L e fa) (hi : X.N[i]? = some x := by rfl) (hx : Loc X.env.scope x := by first | exact Or.inl rfl | exact Or.inr rfl) (hio : i ∉ L.io := by exact of_decide_eq_true rfl) (hs : swapsWith e (some (.Name x pos')) pos.line X.env = pure false := by rfl) (hf : X.fn x = true ∨ X.env.scope.names.lookup x = some .local := by first | exact .inl rfl | exact .inr rfl) :
    PFS X L (.Assign [.Name x pos'] e pos) (fAsg i fa) := PS_imp (ps_set hN hi hx he hs hf) fun D σ H ⟨Z, Y, s, Ef, r, k, h, eo⟩ => by
  refine ⟨Z, Y, s, Ef.xx, _, r, k, eo.xx, h, fun v H1 Z1 r1 s1 hz rx h1 => ?_⟩
  obtain ⟨Z2, s2, hz2, rl2, h2⟩ := putR_ok rx h1
  exact eo.nx _ H1 Z2 s2 (hz.trans hz2) (L.keeps_set k hio) rl2 h2
/-- only the slots ws differ -/
def Only (ws : List Nat) (σ σ' : St) : Prop := σ'.length = σ.length ∧ ∀ j : Nat, j ∉ ws → σ'[j]? = σ[j]?
theorem Only.refl {ws : List Nat} {σ : St} : Only ws σ σ := ⟨rfl, fun _ _ => rfl⟩
theorem Only.trans {ws : List Nat} {σ σ1 σ2 : St} (a : Only ws σ σ1) (b : Only ws σ1 σ2) : Only ws σ σ2 := ⟨b.1.trans a.1, fun j h => (b.2 j h).trans (a.2 j h)⟩
theorem Only.set {ws : List Nat} {σ : St} {i : Nat} {v : Option V} (h : i ∈ ws) : Only ws σ (σ.set i v) := ⟨by simp, fun j hj => List.getElem?_set_ne (fun z : i = j => hj (z ▸ h))⟩
def liftG (X : Cx) (L : Lv) (ws : List Nat) (fg : FG) : TG := fun v σ H Q => ∃ Z Y s d Qf, Rel X.K Z Y H σ s ∧ L.keeps σ ∧ Rp X.K Z v d ∧ fg d s Qf ∧ ∀ σ' s', L.keeps σ' → Only ws σ σ' → Rel X.K Z Y H σ' s' → Qf s' → Q σ' H
def liftGs (X : Cx) (L : Lv) (ws : List Nat) (fg : List D → S → (S → Prop) → Prop) : TGs := fun vs σ H Q => ∃ Z Y s ds Qf, Rel X.K Z Y H σ s ∧ L.keeps σ ∧ RpAll X.K Z vs ds ∧ fg ds s Qf ∧ ∀ σ' s', L.keeps σ' → Only ws σ σ' → Rel X.K Z Y H σ' s' → Qf s' → Q σ' H
def PFG (X : Cx) (L : Lv) (ws : List Nat) (e : Expr) (fg : FG) : Prop := PG X e (liftG X L ws fg)
def PFGs (X : Cx) (L : Lv) (ws : List Nat) (es : List Expr) (fgs : List FG) : Prop := PGs X es (liftGs X L ws (gTp.gTps fgs))
variable {ws : List Nat}
theorem PG_imp {t t' : TG} (h : PG X e t) (hi : ∀ v σ H Q, t' v σ H Q → t v σ H Q) : PG X e t' := ⟨fun pins s σ H v u Q I r q => h.run pins s σ H v u Q I r (hi v σ H Q q)⟩
theorem PGs_imp {t t' : TGs} (h : PGs X es t) (hi : ∀ v σ H Q, t' v σ H Q → t v σ H Q) : PGs X es t' := ⟨fun pins s σ H v u Q I r q => h.run pins s σ H v u Q I r (hi v σ H Q q)⟩
theorem pfg_nm {i : Nat} {x : Str} (hN : X.N.Nodup) (hi : X.N[i]? = some x := by rfl) (hx : Loc X.env.scope x := by first | exact Or.inl rfl | exact Or.inr rfl) (hio : i ∉ L.io := by exact of_decide_eq_true rfl) (hws : i ∈ ws := by decide) (hf : X.fn x = true ∨ X.env.scope.names.lookup x = some .local := by first | exact .inl rfl | exact .inr rfl) : PFG X L ws (.Name x pos) (gNm i) :=
  PG_imp (pg_name hN hi hx hf) fun v σ H Q ⟨Z, Y, s, d, Qf, r, k, rp, h, q⟩ => q _ _ (L.keeps_set k hio) (.set hws) (Rel.put (r.pushD rp) r.len i) h
theorem pfgs_nil : PFGs X L ws [] [] := PGs_imp pgs_nil fun vs σ H Q ⟨Z, Y, s, ds, Qf, r, k, rp, h, q⟩ => by
  cases rp with
  | nil => exact ⟨rfl, q σ s k .refl r h⟩
  | cons _ _ => exact h.elim
theorem pfgs_cons {fg : FG} {fgs : List FG} (h1 : PFG X L ws e fg) (h2 : PFGs X L ws es fgs) (hs : (assignEach (e :: es) X.env).map (·.2) = assign e X.env :: (assignEach es X.env).map (·.2) := by rfl) : PFGs X L ws (e :: es) (fg :: fgs) :=
  PGs_imp (pgs_cons h1 h2 hs) fun vs σ H Q ⟨Z, Y, s, ds, Qf, r, k, rp, h, q⟩ => by
  cases rp with
  | nil => exact h.elim
  | cons rd ra =>
    refine ⟨_, _, rfl, Z, Y, s, _, _, r, k, rd, h, fun σ1 s1 k1 o1 r1 h1 => ?_⟩
    exact ⟨Z, Y, s1, _, Qf, r1, k1, ra, h1, fun σ2 s2 k2 o2 => q σ2 s2 k2 (o1.trans o2)⟩
/-- a tuple's target takes as many things as it has names -/
def TpLen (fgs : List FG) : Prop := ∀ ds s k, gTp.gTps fgs ds s k → ds.length = fgs.length
theorem tp2 {i j : Nat} : TpLen [gNm i, gNm j] := fun ds s k h => by
  match ds, h with
  | [_, _], _ => rfl
  | [], h => exact h.elim
  | [_], h => exact h.elim
  | _ :: _ :: _ :: _, h => exact h.elim
theorem pfg_tup {x1 : Nat} {fgs : List FG} (hc : X.calm = true) (h : PFGs X L ws es fgs) (hn : (assignEach es X.env).length = fgs.length := by rfl) (hst : (assignEach es X.env).findIdx? (·.1) = none := by rfl)
    (hlen : TpLen fgs) : PFG X L ws (.Tuple es x1 pos) (gTp fgs) :=
  PG_imp (pg_tup hc h hn hst) fun v σ H Q ⟨Z, Y, s, d, Qf, r, k, rp, h, q⟩ => by
  cases rp with
  | tup hs hz ra => exact ⟨_, _, rfl, tupSq (r.zh _ _ hs), (by rw [ra.length]; exact hlen _ _ _ h), Z, Y, s, _, Qf, r, k, ra, h, q⟩
  | _ => exact h.elim
end
end Hs
namespace Hs
open PySem PySem.Spec PyProof.Rows L2
section
variable {X : Cx} {L : Lv} {e a b c : Expr} {es : List Expr} {fa fb fc : FE} {ft fu : FT} {fr : FA} {pos p : Pos} {ws : List Nat}
structure Walks (K : PySem.W.Frag) (Z : Hp) (J : It) (xs : List D) : Prop where
  stop : ∀ i H, Same Z H → xs.length ≤ i → J.stop i H
  go : ∀ i H, Same Z H → i < xs.length → J.go i H
  yld : ∀ (i : Nat) H v H' Zc, Same Z Zc → Same Zc H → i < xs.length → J.yld i H v H' → ∃ d Z', xs[i]? = some d ∧ NewR K Zc H Z' H' v (.d d)
def liftI (X : Cx) (L : Lv) (fi : FI) : TI := fun σ H R => ∃ Z Y s Xf Qf, Rel X.K Z Y H σ s ∧ L.keeps σ ∧ XOk X L Z Y Xf ∧ fi Xf s Qf ∧ ∀ J H' Z' s' xs, Same Z Z' → Rel X.K Z' Y H' σ s' → Walks X.K Z' J xs → Qf xs s' → R J H'
def PFI (X : Cx) (L : Lv) (tg e : Expr) (fi : FI) : Prop := PI X tg e (liftI X L fi)
theorem PI_imp {tg : Expr} {t t' : TI} (h : PI X tg e t) (hi : ∀ σ H R, t' σ H R → t σ H R) : PI X tg e t' := ⟨fun pins s σ H R I q => h.run pins s σ H R I (hi σ H R q)⟩
def iSq (K : PySem.W.Frag) (tl : TE) : TI := fun σ H R => tl σ H fun x H1 => ∃ a, x = .ref a ∧ (((∃ xs, SqL K H1 a xs) ∧ R (Itl K a) H1) ∨ ((∃ xs, SqT K H1 a xs) ∧ R (Itt K a) H1))
theorem pi_sq {tg l : Expr} {tl : TE} (hl : PE X l tl) : PI X tg l (iSq X.K tl) := by
  refine ⟨fun pins s σ H R I h => ?_⟩
  refine thn (hl.run pins s σ H _ I h) fun v s1 ⟨x, H1, I1, r1, q1⟩ => ?_
  obtain ⟨a, e, q⟩ := q1
  subst e
  cases r1
  have one : ∀ {b : Addr}, b ∈ [s1.heap.objs.size] → b = s1.heap.objs.size := fun hb => by simpa using hb
  rcases q with ⟨⟨xs, hq⟩, q⟩ | ⟨⟨xs, hq⟩, q⟩
  · obtain ⟨its, rv, p, hz⟩ := I1.list hq
    refine wpAny_pyIter_list p.isList ?_
    refine ⟨s1.heap.objs.size, [s1.heap.objs.size], _, _, H1, rfl, I1.kept (t' := s1.toks) fun b o e => Heap.get?_push_of_some _ e, turn_list a _, ⟨_, Heap.get?_push_size _ rfl, rfl, rfl⟩, fun b hb => ?_, q⟩
    rw [one hb]
    exact I1.fpOk (Nat.le_refl _) (I1.hok.fresh (Nat.le_refl _))
  · obtain ⟨its, rv, p, hz⟩ := I1.tuple hq
    refine wpAny_pyIter_tuple (show s1.heap.IsTuple a its.toArray from p) ?_
    refine ⟨s1.heap.objs.size, [s1.heap.objs.size], _, _, H1, rfl, I1.kept (t' := s1.toks) fun b o e => Heap.get?_push_of_some _ e, turn_tuple a _, ⟨_, Heap.get?_push_size _ rfl, rfl, rfl⟩, fun b hb => ?_, q⟩
    rw [one hb]
    exact I1.fpOk (Nat.le_refl _) (I1.hok.fresh (Nat.le_refl _))
theorem walks_list {K : PySem.W.Frag} {Z : Hp} {a : Addr} {vs : List V} {xs : List D} (h : SqL K Z a vs) (r : RpAll K Z vs xs) : Walks K Z (Itl K a) xs where
  stop := fun i H e hi => ⟨vs, e.seq h, by rw [r.length]; exact hi⟩
  go := fun i H e hi => ⟨vs, vs[i]'(by rw [r.length]; exact hi), e.seq h, by simp⟩
  yld := fun i H v H' Zc e1 e2 hi ⟨eh, hv⟩ => by
    subst eh
    obtain ⟨d, hd, rd⟩ := r.getV (hv vs ((e1.trans e2).seq h))
    exact ⟨d, Zc, hd, .d e2 (rd.same e1)⟩
theorem walks_tup {K : PySem.W.Frag} {Z : Hp} {a : Addr} {vs : List V} {xs : List D} (h : SqT K Z a vs) (r : RpAll K Z vs xs) : Walks K Z (Itt K a) xs where
  stop := fun i H e hi => ⟨vs, same_sqT e h, by rw [r.length]; exact hi⟩
  go := fun i H e hi => ⟨vs, vs[i]'(by rw [r.length]; exact hi), same_sqT e h, by simp⟩
  yld := fun i H v H' Zc e1 e2 hi ⟨eh, hv⟩ => by
    subst eh
    obtain ⟨d, hd, rd⟩ := r.getV (hv vs (same_sqT (e1.trans e2) h))
    exact ⟨d, Zc, hd, .d e2 (rd.same e1)⟩
theorem rangeD_get {lo : Int} {n i : Nat} (h : i < n) : (rangeD lo n)[i]? = some (.int (lo + (i : Int))) := by
  unfold rangeD
  rw [List.getElem?_map, List.getElem?_range h]; rfl
theorem rangeD_len {lo : Int} {n : Nat} : (rangeD lo n).length = n := by unfold rangeD; rw [List.length_map, List.length_range]
theorem walks_range {K : PySem.W.Frag} {Z : Hp} {lo : Int} {n : Nat} : Walks K Z (Itr lo n) (rangeD lo n) where
  stop := fun i H e hi => by rw [rangeD_len] at hi; exact hi
  go := fun i H e hi => by rw [rangeD_len] at hi; exact hi
  yld := fun i H v H' Zc e1 e2 hi ⟨eh, hv⟩ => by
    subst eh hv
    rw [rangeD_len] at hi
    exact ⟨_, Zc, rangeD_get hi, .d e2 (.int _)⟩
theorem pfi_seq {tg : Expr} (he : PF X L e fa) : PFI X L tg e (iSeq fa) := PI_imp (pi_sq he) fun σ H R ⟨Z, Y, s, Xf, Qf, r, k, xo, h, q⟩ => by
  refine ⟨Z, Y, s, Xf, _, r, k, xo, h, fun v H1 Z1 r1 s1 hz rx h1 => ?_⟩
  obtain ⟨Z2, d, s2, hz2, rx2, h2⟩ := frz_ok (us := []) (ds := []) (vs := []) (rs := []) rx rfl h1
  have rv := rx2.vd
  cases rv with
  | lst hs hl ra => exact ⟨_, rfl, .inl ⟨⟨_, .inl (same_rd rx2.rel0.zh hs)⟩, q _ H1 Z2 s2 _ (hz.trans hz2) rx2.rel0 (walks_list (.inl hs) ra) h2⟩⟩
  | tup hs hl ra => exact ⟨_, rfl, .inr ⟨⟨_, tupSq (rx2.rel0.zh _ _ hs)⟩, q _ H1 Z2 s2 _ (hz.trans hz2) rx2.rel0 (walks_tup (tupSq hs) ra) h2⟩⟩
  | _ => exact h2.elim
theorem pfi_range1 {tg : Expr} (hg : Gl X "range") (hm : X.mg "range" = none) (ha : PFA X L [a] fr) (hs : starEach [a] X.env = [(false, eval a X.env)] := by rfl) : PFI X L tg (.Call (.Name "range" p) [a] [] pos) (iRange1 fr) :=
  PI_imp (pi_range1 hg hm ha hs) fun σ H R ⟨Z, Y, s, Xf, Qf, r, k, xo, h, q⟩ => by
  refine ⟨Z, Y, s, Xf, _, r, k, xo, h, fun vs H1 Z1 rs s1 hz rx hn h1 => ?_⟩
  split at h1
  · rename_i j
    obtain ⟨hj, h2⟩ := h1
    have rv := RelX.rps (ds := [.int j]) rx
    cases rv with
    | cons r1 r2 =>
      cases r1; cases r2
      exact ⟨j, rfl, hj.1, hj.2, q _ H1 Z1 s1 _ hz rx.rel0 walks_range h2⟩
  · exact h1.elim
theorem pfi_range2 {tg : Expr} (hg : Gl X "range") (hm : X.mg "range" = none) (ha : PFA X L [a, b] fr) (hs : starEach [a, b] X.env = [(false, eval a X.env), (false, eval b X.env)] := by rfl) (hs2 : starEach [b] X.env = [(false, eval b X.env)] := by rfl) : PFI X L tg (.Call (.Name "range" p) [a, b] [] pos) (iRange2 fr) :=
  PI_imp (pi_range2 hg hm ha hs hs2) fun σ H R ⟨Z, Y, s, Xf, Qf, r, k, xo, h, q⟩ => by
  refine ⟨Z, Y, s, Xf, _, r, k, xo, h, fun vs H1 Z1 rs s1 hz rx hn h1 => ?_⟩
  split at h1
  · rename_i i j
    obtain ⟨hi, hj, h2⟩ := h1
    have rv := RelX.rps (ds := [.int i, .int j]) rx
    cases rv with
    | cons r1 r2 =>
      cases r2 with
      | cons r2 r3 =>
        cases r1; cases r2; cases r3
        exact ⟨i, j, rfl, ⟨hi.1, hi.2, hj.1, hj.2⟩, q _ H1 Z1 s1 _ hz rx.rel0 walks_range h2⟩
  · exact h1.elim
theorem wipe_get (σ : St) : ∀ (vs : List Nat) (j : Nat), (wipe σ vs).getD j none = if j ∈ vs then none else σ.getD j none
  | [], j => by simp [wipe]
  | v :: vs, j => by
    unfold wipe
    by_cases h : v = j
    · subst h
      simp only [List.mem_cons, true_or, if_true]
      by_cases hv : v < (wipe σ vs).length
      · exact getD_set_self hv
      · exact getD_out (by simpa using hv)
    · rw [getD_set_ne h, wipe_get σ vs j]
      have : (j ∈ v :: vs) ↔ j ∈ vs := by simp [Ne.symm h]
      simp only [this]
theorem wipeS_len : ∀ (vs : List Nat) (s : S), (wipeS s vs).length = s.length
  | [], s => rfl
  | v :: vs, s => by unfold wipeS; rw [wipeS_len vs, List.length_set]
theorem wipeS_get : ∀ (vs : List Nat) (s : S) (j : Nat), (wipeS s vs).getD j .no = if j ∈ vs then .no else s.getD j .no
  | [], s, j => by simp [wipeS]
  | v :: vs, s, j => by
    unfold wipeS
    rw [wipeS_get vs]
    by_cases hj : j ∈ vs
    · rw [if_pos hj, if_pos (List.mem_cons_of_mem _ hj)]
    · rw [if_neg hj]
      by_cases h : v = j
      · subst h
        rw [if_pos List.mem_cons_self]
        by_cases hv : v < s.length
        · exact getD_set_self hv
        · exact getD_out (by simpa using hv)
      · rw [getD_set_ne h, if_neg (by simp [hj, Ne.symm h])]
theorem Rel.wipeS {K : PySem.W.Frag} {Z Y H : Hp} {σ : St} {s : S} (r : Rel K Z Y H σ s) (vs : List Nat) : Rel K Z Y H σ (wipeS s vs) :=
  r.re (fun k => if k ∈ vs then none else some k) (by rw [wipeS_len]; exact r.len) (fun k => by
    by_cases h : k ∈ vs
    · simp only [if_pos h]
      exact .inl (by rw [wipeS_get, if_pos h])
    · simp only [if_neg h]
      exact ⟨by rw [wipeS_get, if_neg h], trivial⟩) (fun k k' j h h' => by
    by_cases a : k ∈ vs
    · rw [if_pos a] at h; cases h
    · by_cases b : k' ∈ vs
      · rw [if_pos b] at h'; cases h'
      · rw [if_neg a] at h; rw [if_neg b] at h'; cases h; cases h'; rfl)
variable {f1 f2 : FS} {wp : List Nat}
theorem pfs_for {tg iter : Expr} {body : List Stmt} {fi : FI} {fg : FG} (hp : PassesOwn (model X.prog X.w) X.A X.env X.xe) (hc : X.calm = true) (hi : PFI X L tg iter fi) (hg : PFG X L ws tg fg) (hb : PFSs X L body f1)
    (hs : ∀ x, foldedSetIterable iter X.env x = pure x := by intro _; rfl) : PFS X L (.For tg iter body [] pos) (fFor fi fg wp f1) := PS_imp (ps_for hp hc hi hg hb hs) fun D σ H ⟨Z, Y, s, Ef, r, k, h, eo⟩ => by
  refine ⟨Z, Y, s, Ef.xx, _, r, k, eo.xx, h, fun J H1 Z1 s1 xs hz rl wk hloop => ?_⟩
  refine ⟨fun i m σ' H' => ∃ Z' s', Same Z1 Z' ∧ Rel X.K Z' Y H' σ' s' ∧ L.keeps σ' ∧ m = xs.length - i ∧ i ≤ xs.length ∧ fLoop fg wp f1 Ef (xs.drop i) s', ⟨xs.length, Z1, _, Same.refl _, rl.wipeS wp, k, rfl, Nat.zero_le _, hloop⟩, ?_⟩
  rintro i m σ' H' ⟨Z', s', hz', r', k', rfl, hle, hl⟩
  by_cases hlt : i < xs.length
  · refine .inr ⟨wk.go i H' (hz'.trans r'.zh) hlt, fun σ2 H2 => ∃ Z2 s2, Same Z' Z2 ∧ Rel X.K Z2 Y H2 σ2 s2 ∧ L.keeps σ2 ∧ fLoop fg wp f1 Ef (xs.drop (i + 1)) (wipeS s2 wp), fun σ2 H2 ⟨Z2, s2, hz2, r2, k2, h2⟩ => ⟨xs.length - (i + 1), by omega, Z2, _, hz'.trans hz2, r2.wipeS wp, k2, rfl, hlt, h2⟩, fun x H2 hy => ?_⟩
    obtain ⟨d, Z2, hd, n⟩ := wk.yld i H' x H2 Z' hz' r'.zh hlt hy
    have ed : xs.drop i = d :: xs.drop (i + 1) := by
      obtain ⟨h1, h2⟩ := List.getElem?_eq_some_iff.mp hd
      rw [List.drop_eq_getElem_cons hlt, h2]
    rw [ed] at hl
    have r2 : Rel X.K Z2 Y H2 σ' s' := r'.grow n.hh n.hz n.zh n.old
    refine ⟨Z2, Y, s', d, _, r2, k', n.val, hl, fun σ3 s3 k3 _ r3 h3 => ?_⟩
    refine ⟨Z2, Y, s3, _, r3, k3, h3, ⟨fun σ4 H4 Z4 s4 hz4 k4 r4 h4 => ⟨Z4, s4, n.hz.trans hz4, r4, k4, h4⟩, fun v σ4 H4 Z4 r0 s4 hz4 k4 rx4 h4 => eo.rt v σ4 H4 Z4 r0 s4 (((hz.trans hz').trans n.hz).trans hz4) k4 rx4 h4,
      fun σ4 H4 Z4 s4 hz4 k4 r4 h4 => eo.nx σ4 H4 Z4 _ (((hz.trans hz').trans n.hz).trans hz4) k4 (r4.wipeS wp) h4, fun σ4 H4 Z4 s4 hz4 k4 r4 h4 => ⟨Z4, s4, n.hz.trans hz4, r4, k4, h4⟩, eo.xx.z ((hz.trans hz').trans n.hz)⟩⟩
  · have ei : i = xs.length := by omega
    subst ei
    rw [List.drop_length] at hl
    exact .inl ⟨wk.stop _ H' (hz'.trans r'.zh) (Nat.le_refl _), eo.nx σ' H' Z' s' (hz.trans hz') k' r' hl⟩
theorem wipe_only {σ σ' : St} {vs : List Nat} (o : Only vs σ σ') : wipe σ' vs = wipe σ vs := by
  refine List.ext_getElem? fun j => ?_
  have g : ∀ τ : St, (wipe τ vs)[j]? = if j < τ.length then some (if j ∈ vs then none else τ.getD j none) else none := fun τ => by
    by_cases h : j < τ.length
    · rw [if_pos h]
      have q := wipe_get τ vs j
      rw [List.getD_eq_getElem?_getD, List.getElem?_eq_getElem (by rw [wipe_length]; exact h)] at q
      rw [List.getElem?_eq_getElem (by rw [wipe_length]; exact h)]
      exact congrArg some q
    · rw [if_neg h, List.getElem?_eq_none (by rw [wipe_length]; omega)]
  rw [g, g, o.1]
  by_cases h : j ∈ vs
  · simp [h]
  · simp only [h, if_false]
    rw [List.getD_eq_getElem?_getD, List.getD_eq_getElem?_getD, o.2 j h]
theorem wipe_wipe {σ : St} {vs : List Nat} : Only vs σ (wipe σ vs) := ⟨wipe_length σ vs, fun j h => by
  have q := wipe_get σ vs j
  rw [if_neg h, List.getD_eq_getElem?_getD, List.getD_eq_getElem?_getD] at q
  by_cases hj : j < σ.length
  · rw [List.getElem?_eq_getElem (by rw [wipe_length]; exact hj), List.getElem?_eq_getElem hj] at q ⊢
    exact congrArg some q
  · rw [List.getElem?_eq_none (by rw [wipe_length]; omega), List.getElem?_eq_none (by omega)]⟩
/-- the wiped slots hold nothing: whatever stands there -/
theorem Rel.unwipe {K : PySem.W.Frag} {Z Y H : Hp} {σ σ' ts : St} {s us : S} {vs : List Nat} (r : Rel K Z Y H (σ ++ ts) (s ++ us)) (o : Only vs σ σ') (hl : σ.length = s.length) (hn : ∀ j ∈ vs, s.getD j .no = .no) : Rel K Z Y H (σ' ++ ts) (s ++ us) := by
  refine r.re (fun k => if k < σ.length ∧ k ∈ vs then none else some k) (by have := r.len; simp only [List.length_append] at this ⊢; rw [o.1]; exact this) (fun k => ?_) (fun k k' j h h' => ?_)
  · by_cases h : k < σ.length ∧ k ∈ vs
    · simp only [if_pos h]
      exact .inl (by rw [getD_app_lt (by omega)]; exact hn k h.2)
    · simp only [if_neg h]
      refine ⟨trivial, ?_⟩
      by_cases hk : k < σ.length
      · have hv : k ∉ vs := fun z => h ⟨hk, z⟩
        rw [getD_app_lt (by rw [o.1]; exact hk), getD_app_lt hk, List.getD_eq_getElem?_getD, List.getD_eq_getElem?_getD, o.2 k hv]
      · rw [getD_app_ge (by rw [o.1]; omega), getD_app_ge (by omega), o.1]
  · by_cases a1 : k < σ.length ∧ k ∈ vs
    · rw [if_pos a1] at h; cases h
    · by_cases b1 : k' < σ.length ∧ k' ∈ vs
      · rw [if_pos b1] at h'; cases h'
      · rw [if_neg a1] at h; rw [if_neg b1] at h'; cases h; cases h'; rfl
theorem Rel.wipe2 {K : PySem.W.Frag} {Z Y H : Hp} {σ ts : St} {s us : S} (r : Rel K Z Y H (σ ++ ts) (s ++ us)) (hl : σ.length = s.length) (vs : List Nat) : Rel K Z Y H (wipe σ vs ++ ts) (Hs.wipeS s vs ++ us) := by
  refine Rel.unwipe (σ := σ) (vs := vs) ?_ wipe_wipe (by rw [wipeS_len]; exact hl) fun j hj => by rw [wipeS_get, if_pos hj]
  refine r.re (fun k => if k < σ.length ∧ k ∈ vs then none else some k) (by have := r.len; simp only [List.length_append, wipeS_len] at this ⊢; exact this) (fun k => ?_) (fun k k' j h h' => ?_)
  · by_cases h : k < σ.length ∧ k ∈ vs
    · simp only [if_pos h]
      exact .inl (by rw [getD_app_lt (by rw [wipeS_len]; omega), wipeS_get, if_pos h.2])
    · simp only [if_neg h]
      refine ⟨?_, trivial⟩
      by_cases hk : k < σ.length
      · have hv : k ∉ vs := fun z => h ⟨hk, z⟩
        rw [getD_app_lt (by rw [wipeS_len]; omega), getD_app_lt (by omega), wipeS_get, if_neg hv]
      · rw [getD_app_ge (by rw [wipeS_len]; omega), getD_app_ge (by omega), wipeS_len]
  · by_cases a1 : k < σ.length ∧ k ∈ vs
    · rw [if_pos a1] at h; cases h
    · by_cases b1 : k' < σ.length ∧ k' ∈ vs
      · rw [if_pos b1] at h'; cases h'
      · rw [if_neg a1] at h; rw [if_neg b1] at h'; cases h; cases h'; rfl
/-- within a comprehension no error leaves -/
def Lv.in0 (L : Lv) : Lv := { L with E := fun _ _ _ _ => False }
theorem XOk.none {Z Y : Hp} : XOk X L Z Y fun _ _ => False := fun _ _ _ _ _ _ _ _ _ h _ => h.elim
structure PFTs (X : Cx) (L : Lv) (ifs : List Expr) (ft : FT) : Prop where
  h : PTs X ifs (liftT X L ft)
theorem pfts_nil : PFTs X L [] fYes := ⟨⟨fun pins s σ H Q I ⟨Z, Y, s', Xf, Qf, r, k, xo, h, q⟩ => pts_nil.run pins s σ H Q I (q true H Z s' (Same.refl _) r h)⟩⟩
theorem fLc_ok {fi : FI} {fg : FG} {vs : List Nat} {σ : St} {H : Hp} {Q : VK} (hv : ∀ j ∈ vs, j ∉ L.io) (h : liftE X L (fLc fi fg vs ft fa) σ H Q) :
    tLc (liftI X L fi) (liftG X L.in0 vs fg) (liftT X L.in0 ft) (liftE X L.in0 fa) vs σ H Q := by
  obtain ⟨Z, Y, s, Xf, Qf, r, k, xo, h, q⟩ := h
  refine ⟨Z, Y, s, Xf, _, r, k, xo, h, fun J H1 Z1 s1 xs hz rl wk ⟨hsz, hcomp⟩ => fun D hD => ?_⟩
  have kw : L.keeps (wipe σ vs) := ⟨by rw [wipe_length]; exact k.1, fun j hj => by
    rw [wipe_get, if_neg (fun z => hv j z hj)]
    exact k.2 j hj⟩
  refine ⟨fun i m H' => ∃ Z' s' acc avs, Same Z1 Z' ∧ Rel X.K Z' Y H' (wipe σ vs ++ [some (.ref D)]) (s' ++ [.l acc]) ∧ s'.length = σ.length ∧ (∀ j ∈ vs, s'.getD j .no = .no) ∧ H' D = some (.lst avs) ∧ avs.length ≤ i ∧ m = xs.length - i ∧ i ≤ xs.length ∧ fComp (fun _ _ => False) fg vs ft fa Qf (xs.drop i) acc s',
    ⟨xs.length, Z1, wipeS s1 vs, [], [], Same.refl _, Rel.wipe2 (rl.newL (vs := []) (xs := []) hD (Nat.zero_le _) .nil) rl.len vs, by rw [wipeS_len]; exact rl.len.symm, fun j hj => by rw [wipeS_get, if_pos hj], upd_same, Nat.le_refl _, rfl, Nat.zero_le _, hcomp⟩, ?_⟩
  rintro i m H' ⟨Z', s', acc, avs, hz', r', hl', hno, hDl, hal, rfl, hle, hl⟩
  have hl'' : (wipe σ vs).length = s'.length := by rw [wipe_length, hl']
  by_cases hlt : i < xs.length
  · refine .inr ⟨wk.go i H' (hz'.trans r'.zh) hlt, fun H2 => ∃ Z2 s2 acc2 avs2, Same Z' Z2 ∧ Rel X.K Z2 Y H2 (wipe σ vs ++ [some (.ref D)]) (s2 ++ [.l acc2]) ∧ s2.length = σ.length ∧ (∀ j ∈ vs, s2.getD j .no = .no) ∧ H2 D = some (.lst avs2) ∧ avs2.length ≤ i + 1 ∧ fComp (fun _ _ => False) fg vs ft fa Qf (xs.drop (i + 1)) acc2 s2,
      fun H2 ⟨Z2, s2, acc2, avs2, hz2, r2, l2, n2, d2, al2, h2⟩ => ⟨xs.length - (i + 1), by omega, Z2, s2, acc2, avs2, hz'.trans hz2, r2, l2, n2, d2, al2, rfl, hlt, h2⟩, fun x H2 hy => ?_⟩
    obtain ⟨d, Z2, hd, n⟩ := wk.yld i H' x H2 Z' hz' r'.zh hlt hy
    have ed : xs.drop i = d :: xs.drop (i + 1) := by
      obtain ⟨h1, h2⟩ := List.getElem?_eq_some_iff.mp hd
      rw [List.drop_eq_getElem_cons hlt, h2]
    rw [ed] at hl
    have r2 : Rel X.K Z2 Y H2 (wipe σ vs ++ [some (.ref D)]) (s' ++ [.l acc]) := r'.grow n.hh n.hz n.zh n.old
    have hD2 : H2 D = some (.lst avs) := n.hh _ _ hDl
    obtain ⟨Y', hy', rl2, back, held⟩ := r2.frame hl''
    have yD : Y' D = some (.lst avs) := by
      obtain ⟨F, p', v', e1, e2, e3, _⟩ := held 0
      cases e1
      exact e3.trans ((rl2.yh _ _ e3).symm.trans hD2)
    have bk : ∀ Z1 H1 σ1 s1, Same Z2 Z1 → Rel X.K Z1 Y' H1 σ1 s1 → Rel X.K Z1 Y H1 σ1 s1 := fun Z1 H1 σ1 s1 hz q => (back Z1 H1 σ1 s1 hz q).take q.len
    refine ⟨Z2, Y', s', d, _, rl2, kw, n.val, hl, fun σ3 s3 k3 o3 r3 h3 => ⟨(wipe_only o3).trans (wipe_only wipe_wipe), ?_⟩⟩
    refine ⟨Z2, Y', s3, fun _ _ => False, _, r3, k3, XOk.none, h3, fun b H3 Z3 s4 hz3 r4 h4 => ?_⟩
    have e34 : wipe σ3 vs = wipe σ vs := (wipe_only o3).trans (wipe_only wipe_wipe)
    cases b with
    | false =>
      have h4 : fComp (fun _ _ => False) fg vs ft fa Qf (xs.drop (i + 1)) acc (Hs.wipeS s4 vs) := h4
      have b4 := back Z3 H3 _ _ hz3 r4
      have w4 := b4.wipe2 r4.len vs
      rw [e34] at w4
      exact ⟨Z3, Hs.wipeS s4 vs, acc, avs, n.hz.trans hz3, w4, by rw [wipeS_len, ← r4.len, o3.1, wipe_length], fun j hj => by rw [wipeS_get, if_pos hj], r4.yh _ _ yD, Nat.le_succ_of_le hal, h4⟩
    | true =>
      have h4 : fa (fun _ _ => False) s4 fun r s3 => frz r s3 fun d s4 => fComp (fun _ _ => False) fg vs ft fa Qf (xs.drop (i + 1)) (acc ++ [d]) (Hs.wipeS s4 vs) := h4
      refine ⟨Z3, Y', s4, fun _ _ => False, _, r4, k3, XOk.none, h4, fun y H5 Z5 r5 s5 hz5 rx5 h5 => ?_⟩
      have hD5 : H5 D = some (.lst avs) := rx5.rel0.yh _ _ yD
      obtain ⟨Z6, d6, s6, hz6, rx6, h6⟩ := frz_ok (us := []) (ds := []) (vs := []) (rs := []) rx5 rfl h5
      have b6 := back Z6 H5 _ _ ((hz3.trans hz5).trans hz6) rx6.rel0
      refine ⟨avs, hD5, Nat.lt_of_le_of_lt hal (Nat.lt_of_lt_of_le hlt hsz), Z6, Hs.wipeS s6 vs, acc ++ [d6], avs ++ [y], ((n.hz.trans hz3).trans hz5).trans hz6, ?_, by rw [wipeS_len, ← rx6.l1, o3.1, wipe_length], fun j hj => by rw [wipeS_get, if_pos hj], upd_same, by rw [List.length_append]; exact Nat.succ_le_succ hal, h6⟩
      have racc : RpAll X.K Z6 avs acc := by
        obtain ⟨F, q⟩ := b6.slot σ3.length
        rw [getD_app_ge (Nat.le_refl _), getD_app_ge (by rw [rx6.l1]; exact Nat.le_refl _), Nat.sub_self, rx6.l1, Nat.sub_self] at q
        obtain ⟨p', v', e1, e2, e3, e4, e5⟩ := q
        cases e1
        rw [hD5] at e3; cases e3
        exact e5
      have w6 := Rel.write (i := σ3.length) (xs' := acc ++ [d6]) (vs' := avs ++ [y]) b6 (by rw [getD_app_ge (by rw [rx6.l1]; exact Nat.le_refl _), rx6.l1, Nat.sub_self]; rfl) (by rw [getD_app_ge (Nat.le_refl _), Nat.sub_self]; rfl)
        (by rw [List.length_append]; exact Nat.succ_le_of_lt (Nat.lt_of_le_of_lt hal (Nat.lt_of_lt_of_le hlt hsz))) (racc.append (.cons rx6.vd .nil))
      rw [List.set_append_right _ _ (by rw [rx6.l1]; exact Nat.le_refl _), rx6.l1, Nat.sub_self] at w6
      have w7 := Rel.wipe2 w6 rx6.l1 vs
      rw [e34] at w7
      exact w7
  · have ei : i = xs.length := by omega
    subst ei
    rw [List.drop_length] at hl
    have r9 : Rel X.K Z' Y H' (σ ++ [some (.ref D)]) (s' ++ [.l acc]) := Rel.unwipe r' (vs := vs) ⟨(wipe_length σ vs).symm, fun j hj => (wipe_wipe.2 j hj).symm⟩ hl'' hno
    exact .inl ⟨wk.stop _ H' (hz'.trans r'.zh) (Nat.le_refl _), q _ H' Z' _ s' (hz.trans hz') (.own hl'.symm r9) hl⟩
end
end Hs
namespace Hs
open PySem PySem.Spec PyProof.Rows L2
section
variable {X : Cx} {L : Lv} {e a b c : Expr} {es : List Expr} {fa fb fc : FE} {ft fu : FT} {fr : FA} {pos p : Pos} {ws : List Nat}
theorem pf_lc {elt tg iter : Expr} {ifs : List Expr} {scope : Scope} {own : List (Str × Nat)} {fi : FI} {fg : FG} (hc : X.calm = true) (hN : X.N.Nodup) (hi : PFI X L tg iter fi) (ok : BlkOk X.N X.env.scope scope own)
    (hg : ∀ (s : Shared) (H : Hp) (C : Addr) (cl : List (Str × Addr)) (fp : List Addr), PFG (X.blk s H scope (compEnvC scope cl C X.env) fp) L.in0 (own.map fun p : Str × Nat => p.2) tg fg) (ht : ∀ (s : Shared) (H : Hp) (C : Addr) (cl : List (Str × Addr)) (fp : List Addr), PFTs (X.blk s H scope (compEnvC scope cl C X.env) fp) L.in0 ifs ft)
    (he : ∀ (s : Shared) (H : Hp) (C : Addr) (cl : List (Str × Addr)) (fp : List Addr), PF (X.blk s H scope (compEnvC scope cl C X.env) fp) L.in0 elt fa) (hv : ∀ j ∈ (own.map fun p : Str × Nat => p.2), j ∉ L.io := by exact of_decide_eq_true rfl) (hs : ∀ x, foldedSetIterable iter X.env x = pure x := by intro _; rfl) :
    PF X L (.ListComp elt [⟨tg, iter, ifs, 0⟩] scope pos) (fLc fi fg (own.map fun p : Str × Nat => p.2) ft fa) := PE_imp (pe_lc (own := own) (wi := liftI X L fi) (g := liftG X L.in0 (own.map fun p : Str × Nat => p.2) fg) (tt := liftT X L.in0 ft) (te := liftE X L.in0 fa) hc hN hi ok hg (fun s H C cl fp => (ht s H C cl fp).h) he hs) fun σ H Q h => fLc_ok hv h
/-- a def keeps what its text does; io: the parameters that it may change -/
def liftSp (K : PySem.W.Frag) (mg : Str → Option Value) (io : List Nat) (np : Nat) (sem : FSem) : Sp := fun vs H Q E => ∃ Z Y svs Xf Qf, vs.length = np ∧ Rel K Z Y H (vs.map some) svs ∧ sem svs Xf Qf ∧
  (∀ u H' Z' σ' fin r, Same Z Z' → (∀ k ∈ io, σ'.getD k none = (vs.map some).getD k none) → σ'.length = np → RelX K Z' Y H' σ' fin [u] [r] → (∀ i, r ≠ .top i) → Qf r fin → Q u H') ∧
  (∀ n C H' Z' σ' fin, Same Z Z' → (∀ k ∈ io, σ'.getD k none = (vs.map some).getD k none) → σ'.length = np → Rel K Z' Y H' σ' fin → Xf n fin → mg n = some (.ref C) → E (.ref C) none H')
theorem app_set {α : Type} (a b : List α) (w x : α) (t : List α) : a ++ (b ++ x :: t) = (a ++ (b ++ w :: t)).set (a.length + b.length) x := by
  rw [List.set_append_right _ _ (by omega), Nat.add_sub_cancel_left, List.set_append_right _ _ (Nat.le_refl _), Nat.sub_self]; rfl
theorem bindA_ok {K : PySem.W.Frag} {Y H : Hp} {σ : St} : ∀ {ms : List Bool} {rs : List R} {vs us : List V} {ds : S} {Z : Hp} {s : S} {k : List SV → S → Prop},
    Rel K Z Y H (σ ++ (us ++ vs).map some) (s ++ (ds ++ rs.map svR)) → σ.length = s.length → us.length = ds.length → vs.length = rs.length → (∀ (j i : Nat), rs[j]? = some (R.top i) → i < σ.length ∧ σ.getD i none = vs[j]?) → bindA ms rs s k →
    ∃ Z' svs s', Same Z Z' ∧ Rel K Z' Y H (σ ++ (us ++ vs).map some) (s' ++ (ds ++ svs)) ∧ s'.length = s.length ∧ svs.length = vs.length ∧ ms.length = rs.length ∧ k svs s'
  | [], [], [], us, ds, Z, s, k, r, hl, hu, hv, tp, h => ⟨Z, [], s, Same.refl _, r, rfl, rfl, rfl, h⟩
  | [], [], _ :: _, us, ds, Z, s, k, r, hl, hu, hv, tp, h => by cases hv
  | [], _ :: _, vs, us, ds, Z, s, k, r, hl, hu, hv, tp, h => h.elim
  | true :: _, [], vs, us, ds, Z, s, k, r, hl, hu, hv, tp, h => h.elim
  | false :: _, [], vs, us, ds, Z, s, k, r, hl, hu, hv, tp, h => h.elim
  | m :: ms, r0 :: rs, [], us, ds, Z, s, k, r, hl, hu, hv, tp, h => by cases hv
  | m :: ms, r0 :: rs, v :: vs, us, ds, Z, s, k, r, hl, hu, hv, tp, h => by
    have tp' : ∀ (j i : Nat), rs[j]? = some (R.top i) → i < σ.length ∧ σ.getD i none = vs[j]? := fun j i e => tp (j + 1) i e
    have hl2 := r.len
    have ev : (us ++ v :: vs) = (us ++ [v]) ++ vs := by simp
    have go : ∀ {Z1 : Hp} {w : SV} {s1 : S} {k1 : List SV → S → Prop}, Same Z Z1 → s1.length = s.length → Rel K Z1 Y H (σ ++ (us ++ v :: vs).map some) (s1 ++ (ds ++ w :: rs.map svR)) → bindA ms rs s1 k1 → (∀ svs s', k1 svs s' → k (w :: svs) s') →
        ∃ Z' svs s', Same Z Z' ∧ Rel K Z' Y H (σ ++ (us ++ v :: vs).map some) (s' ++ (ds ++ svs)) ∧ s'.length = s.length ∧ svs.length = (v :: vs).length ∧ (m :: ms).length = (r0 :: rs).length ∧ k svs s' := by
      intro Z1 w s1 k1 hz1 hl1 r1 h1 hk
      have e2 : ds ++ w :: rs.map svR = (ds ++ [w]) ++ rs.map svR := by simp
      rw [ev, e2] at r1
      obtain ⟨Z', svs, s', hz, r2, hls, hlv, hlm, hk2⟩ := bindA_ok r1 (by rw [hl1]; exact hl) (by simp [hu]) (by simpa using hv) tp' h1
      refine ⟨Z', w :: svs, s', hz1.trans hz, ?_, hls.trans hl1, by simp [hlv], by simp [hlm], hk _ _ hk2⟩
      rw [ev]
      simpa using r2
    have ix : ∀ (w : SV) (t : S), (s ++ (ds ++ w :: t)).getD (s.length + ds.length) .no = w := fun w t => by
      rw [getD_app_ge (by omega), Nat.add_sub_cancel_left, getD_app_ge (Nat.le_refl _), Nat.sub_self]; rfl
    have iv : (σ ++ (us ++ v :: vs).map some).getD (s.length + ds.length) none = some v := by
      rw [← hl, ← hu, getD_app_ge (by omega), Nat.add_sub_cancel_left, List.map_append, getD_app_ge (by simp), List.length_map, Nat.sub_self]; rfl
    -- the k-th argument's content is exchanged: by a value that nobody changes
    have byD : ∀ {Z1 : Hp} {s1 : S} {w : SV} {x : D}, s1.length = s.length → Rel K Z1 Y H (σ ++ (us ++ v :: vs).map some) (s1 ++ (ds ++ w :: rs.map svR)) → Rp K Z1 v x → Rel K Z1 Y H (σ ++ (us ++ v :: vs).map some) (s1 ++ (ds ++ .d x :: rs.map svR)) := by
      intro Z1 s1 w x hl1 r1 rp
      refine r1.re (fun k => if k = s.length + ds.length then none else some k) (by have := r1.len; simpa using this) (fun k => ?_) (fun k k' j h h' => ?_)
      · by_cases hk : k = s.length + ds.length
        · simp only [if_pos hk]
          refine .inr ⟨x, v, ?_, by rw [hk]; exact iv, rp⟩
          rw [hk, ← hl1, getD_app_ge (by omega), Nat.add_sub_cancel_left, getD_app_ge (Nat.le_refl _), Nat.sub_self]; rfl
        · simp only [if_neg hk]
          refine ⟨?_, trivial⟩
          rw [app_set s1 ds w (.d x) (rs.map svR), hl1, getD_set_ne (Ne.symm hk)]
      · by_cases e1 : k = s.length + ds.length
        · rw [if_pos e1] at h; cases h
        · by_cases e2 : k' = s.length + ds.length
          · rw [if_pos e2] at h'; cases h'
          · rw [if_neg e1] at h; rw [if_neg e2] at h'; cases h; cases h'; rfl
    cases m with
    | false =>
      cases r0 with
      | d x => exact go (Same.refl _) rfl r h fun _ _ q => q
      | own w =>
        have h : (match asD w with | some x => bindA ms rs s fun svs s2 => k (.d x :: svs) s2 | none => False) := h
        cases e : asD w with
        | none => rw [e] at h; exact h.elim
        | some x =>
          rw [e] at h
          obtain ⟨Z1, hz1, r1⟩ := r.freeze (i := s.length + ds.length) (x := x) (by rw [show ((R.own w :: rs).map svR) = w :: rs.map svR from rfl, ix]; exact e)
          have es : (s ++ (ds ++ (R.own w :: rs).map svR)).set (s.length + ds.length) (.d x) = s ++ (ds ++ .d x :: rs.map svR) := by
            rw [List.set_append_right _ _ (by omega), Nat.add_sub_cancel_left, List.set_append_right _ _ (Nat.le_refl _), Nat.sub_self]; rfl
          rw [es] at r1
          exact go hz1 rfl r1 h fun _ _ q => q
      | top i =>
        have h : (match asD (s.getD i .no) with | some x => bindA ms rs (s.set i (.d x)) fun svs s2 => k (.d x :: svs) s2 | none => False) := h
        cases e : asD (s.getD i .no) with
        | none => rw [e] at h; exact h.elim
        | some x =>
          rw [e] at h
          obtain ⟨hi, hvi⟩ := tp 0 i rfl
          have his : i < s.length := by omega
          obtain ⟨Z1, hz1, r1⟩ := r.freeze (i := i) (x := x) (by rw [getD_app_lt his]; exact e)
          rw [List.set_append_left _ _ his] at r1
          have rp : Rp K Z1 v x := by
            obtain ⟨F, q⟩ := r1.slot i
            rw [getD_app_lt hi, getD_app_lt (by rw [List.length_set]; exact his), getD_set_self his, hvi] at q
            obtain ⟨_, u, e1, rp⟩ := q
            cases e1
            exact rp
          exact go hz1 (by rw [List.length_set]) (byD (by rw [List.length_set]) r1 rp) h fun _ _ q => q
    | true =>
      cases r0 with
      | d x => exact go (Same.refl _) rfl r h fun _ _ q => q
      | own w => exact go (Same.refl _) rfl r h fun _ _ q => q
      | top i =>
        obtain ⟨hi, hvi⟩ := tp 0 i rfl
        have his : i < s.length := by omega
        have h : bindA ms rs (s.set i .no) fun svs s2 => k (s.getD i .no :: svs) s2 := h
        refine go (w := s.getD i .no) (s1 := s.set i .no) (Same.refl _) (by rw [List.length_set]) ?_ h fun _ _ q => q
        -- the content moves from the slot to the argument
        refine r.re (fun k => if k = s.length + ds.length then some i else if k = i then none else some k) (by have := r.len; simpa using this) (fun k => ?_) (fun k k' j h h' => ?_)
        · by_cases hk : k = s.length + ds.length
          · simp only [if_pos hk]
            refine ⟨?_, ?_⟩
            · rw [hk, getD_app_lt his, getD_app_ge (by rw [List.length_set]; omega), List.length_set, Nat.add_sub_cancel_left, getD_app_ge (Nat.le_refl _), Nat.sub_self]; rfl
            · rw [hk, iv, getD_app_lt hi, hvi]; rfl
          · simp only [if_neg hk]
            by_cases h0 : k = i
            · simp only [if_pos h0]
              exact .inl (by rw [h0, getD_app_lt (by rw [List.length_set]; exact his), getD_set_self his])
            · simp only [if_neg h0]
              refine ⟨?_, trivial⟩
              rw [app_set (s.set i .no) ds .no (s.getD i .no) (rs.map svR), List.length_set, getD_set_ne (Ne.symm hk), ← List.set_append_left _ _ his, getD_set_ne (Ne.symm h0)]
              rfl
        · split at h <;> split at h' <;> (try split at h) <;> (try split at h') <;> (try cases h) <;> (try cases h') <;> (try injection h with h) <;> (try injection h' with h') <;> omega
theorem putB_len : ∀ {ms : List Bool} {rs : List R} {fin s : S}, (putB ms rs fin s).length = s.length
  | true :: ms, .top i :: rs, f :: fin, s => by unfold putB; rw [putB_len, List.length_set]
  | true :: ms, .d x :: rs, f :: fin, s => by unfold putB; exact putB_len
  | true :: ms, .own x :: rs, f :: fin, s => by unfold putB; exact putB_len
  | false :: ms, r :: rs, f :: fin, s => by unfold putB; exact putB_len
  | [], _, _, _ => rfl
  | true :: _, [], _, _ => rfl
  | false :: _, [], _, _ => rfl
  | true :: _, .top _ :: _, [], _ => rfl
  | true :: _, .d _ :: _, [], _ => rfl
  | true :: _, .own _ :: _, [], _ => rfl
  | false :: _, _ :: _, [], _ => rfl
/-- a slot behind the call: as it was, or what the argument that lent it holds -/
theorem putB_at : ∀ {ms : List Bool} {rs : List R} {fin s : S} (i : Nat), (putB ms rs fin s).getD i .no = s.getD i .no ∨ ∃ k : Nat, ms[k]? = some true ∧ rs[k]? = some (.top i) ∧ (putB ms rs fin s).getD i .no = fin.getD k .no
  | true :: ms, .top j :: rs, f :: fin, s, i => by
    unfold putB
    rcases putB_at (ms := ms) (rs := rs) (fin := fin) (s := s.set j f) i with h | ⟨k, h1, h2, h3⟩
    · by_cases hj : j = i
      · subst hj
        by_cases hlt : j < s.length
        · refine .inr ⟨0, rfl, rfl, ?_⟩
          rw [h, getD_set_self hlt]; rfl
        · refine .inl ?_
          rw [h, List.set_eq_of_length_le (by omega)]
      · exact .inl (by rw [h, getD_set_ne hj])
    · exact .inr ⟨k + 1, h1, h2, h3⟩
  | true :: ms, .d x :: rs, f :: fin, s, i => by
    unfold putB
    rcases putB_at (ms := ms) (rs := rs) (fin := fin) (s := s) i with h | ⟨k, h1, h2, h3⟩
    · exact .inl h
    · exact .inr ⟨k + 1, h1, h2, h3⟩
  | true :: ms, .own x :: rs, f :: fin, s, i => by
    unfold putB
    rcases putB_at (ms := ms) (rs := rs) (fin := fin) (s := s) i with h | ⟨k, h1, h2, h3⟩
    · exact .inl h
    · exact .inr ⟨k + 1, h1, h2, h3⟩
  | false :: ms, r :: rs, f :: fin, s, i => by
    unfold putB
    rcases putB_at (ms := ms) (rs := rs) (fin := fin) (s := s) i with h | ⟨k, h1, h2, h3⟩
    · exact .inl h
    · exact .inr ⟨k + 1, h1, h2, h3⟩
  | [], _, _, _, _ => .inl rfl
  | true :: _, [], _, _, _ => .inl rfl
  | false :: _, [], _, _, _ => .inl rfl
  | true :: _, .top _ :: _, [], _, _ => .inl rfl
  | true :: _, .d _ :: _, [], _, _ => .inl rfl
  | true :: _, .own _ :: _, [], _, _ => .inl rfl
  | false :: _, _ :: _, [], _, _ => .inl rfl
/-- the parameters that are lent -/
def ioOf (ms : List Bool) : List Nat := (List.range ms.length).filter fun k => ms.getD k false
theorem mem_ioOf {ms : List Bool} {k : Nat} (h : ms[k]? = some true) : k ∈ ioOf ms := by
  obtain ⟨h1, h2⟩ := List.getElem?_eq_some_iff.mp h
  exact List.mem_filter.mpr ⟨List.mem_range.mpr h1, by rw [List.getD_eq_getElem?_getD, h]; rfl⟩
/-- behind the call: the lent slots hold what the arguments hold -/
theorem back_ok {K : PySem.W.Frag} {Z Y H : Hp} {σ σ' ts : St} {s fin us : S} {ms : List Bool} {rs : List R} {vs : List V} (r : Rel K Z Y H (σ' ++ ts ++ σ) (fin ++ us ++ s)) (hl : σ.length = s.length) (hf : σ'.length = fin.length) (hu : ts.length = us.length)
    (keep : ∀ k ∈ ioOf ms, σ'.getD k none = (vs.map some).getD k none) (hv : vs.length = rs.length) (tp : ∀ (j i : Nat), rs[j]? = some (R.top i) → i < σ.length ∧ σ.getD i none = vs[j]?) (hfl : fin.length = vs.length) : Rel K Z Y H (σ ++ ts) (putB ms rs fin s ++ us) := by
  classical
  have at_ := fun i => putB_at (ms := ms) (rs := rs) (fin := fin) (s := s) i
  refine r.re (fun k => if k < σ.length then (if h : ∃ j : Nat, ms[j]? = some true ∧ rs[j]? = some (.top k) ∧ (putB ms rs fin s).getD k .no = fin.getD j .no then some h.choose else some (σ'.length + ts.length + k)) else if k < σ.length + ts.length then some (k - σ.length + σ'.length) else none)
    (by simp [putB_len, hl, hu]) (fun k => ?_) (fun k k' j h h' => ?_)
  · by_cases hk : k < σ.length
    · simp only [if_pos hk]
      by_cases h : ∃ j : Nat, ms[j]? = some true ∧ rs[j]? = some (.top k) ∧ (putB ms rs fin s).getD k .no = fin.getD j .no
      · simp only [dif_pos h]
        obtain ⟨h1, h2, h3⟩ := h.choose_spec
        generalize h.choose = j at h1 h2 h3
        have hlt : j < vs.length := by rw [hv]; exact (List.getElem?_eq_some_iff.mp h2).1
        refine ⟨?_, ?_⟩
        · rw [getD_app_lt (by rw [putB_len]; omega), h3, List.append_assoc, getD_app_lt (by omega)]
        · rw [getD_app_lt hk, (tp _ _ h2).2, List.append_assoc, getD_app_lt (by omega), keep _ (mem_ioOf h1), List.getD_eq_getElem?_getD, List.getElem?_map]
          rw [List.getElem?_eq_getElem hlt]; rfl
      · simp only [dif_neg h]
        refine ⟨?_, ?_⟩
        · rcases at_ k with q | q
          · rw [getD_app_lt (by rw [putB_len]; omega), q, getD_app_ge (by simp; omega)]
            have e : σ'.length + ts.length + k - (fin ++ us).length = k := by simp; omega
            rw [e]
          · exact absurd q h
        · rw [getD_app_lt hk, getD_app_ge (by simp)]
          have e : σ'.length + ts.length + k - (σ' ++ ts).length = k := by simp
          rw [e]
    · simp only [if_neg hk]
      by_cases hk2 : k < σ.length + ts.length
      · simp only [if_pos hk2]
        refine ⟨?_, ?_⟩
        · rw [getD_app_ge (by rw [putB_len]; omega), List.append_assoc, getD_app_ge (by omega), getD_app_lt (by omega), putB_len]
          congr 1; omega
        · rw [getD_app_ge (by omega), List.append_assoc, getD_app_ge (by omega), getD_app_lt (by omega)]
          congr 1; omega
      · simp only [if_neg hk2]
        exact .inl (getD_out (by simp [putB_len]; omega))
  · by_cases hk : k < σ.length
    · simp only [if_pos hk] at h
      by_cases hk' : k' < σ.length
      · simp only [if_pos hk'] at h'
        by_cases q : ∃ j : Nat, ms[j]? = some true ∧ rs[j]? = some (.top k) ∧ (putB ms rs fin s).getD k .no = fin.getD j .no
        · rw [dif_pos q] at h
          have qlt : q.choose < vs.length := by rw [hv]; exact (List.getElem?_eq_some_iff.mp q.choose_spec.2.1).1
          by_cases q' : ∃ j : Nat, ms[j]? = some true ∧ rs[j]? = some (.top k') ∧ (putB ms rs fin s).getD k' .no = fin.getD j .no
          · rw [dif_pos q'] at h'
            have e : q.choose = q'.choose := Option.some.inj (h.trans h'.symm)
            have e1 := q.choose_spec.2.1
            have e2 := q'.choose_spec.2.1
            rw [e, e2] at e1
            cases e1; rfl
          · rw [dif_neg q'] at h'
            have e := Option.some.inj (h.trans h'.symm)
            omega
        · rw [dif_neg q] at h
          by_cases q' : ∃ j : Nat, ms[j]? = some true ∧ rs[j]? = some (.top k') ∧ (putB ms rs fin s).getD k' .no = fin.getD j .no
          · rw [dif_pos q'] at h'
            have qlt : q'.choose < vs.length := by rw [hv]; exact (List.getElem?_eq_some_iff.mp q'.choose_spec.2.1).1
            have e := Option.some.inj (h.trans h'.symm)
            omega
          · rw [dif_neg q'] at h'
            have e := Option.some.inj (h.trans h'.symm)
            omega
      · simp only [if_neg hk'] at h'
        by_cases hk2 : k' < σ.length + ts.length
        · rw [if_pos hk2] at h'
          by_cases q : ∃ j : Nat, ms[j]? = some true ∧ rs[j]? = some (.top k) ∧ (putB ms rs fin s).getD k .no = fin.getD j .no
          · rw [dif_pos q] at h
            have qlt : q.choose < vs.length := by rw [hv]; exact (List.getElem?_eq_some_iff.mp q.choose_spec.2.1).1
            have e := Option.some.inj (h.trans h'.symm)
            omega
          · rw [dif_neg q] at h
            have e := Option.some.inj (h.trans h'.symm)
            omega
        · rw [if_neg hk2] at h'; cases h'
    · simp only [if_neg hk] at h
      by_cases hk2 : k < σ.length + ts.length
      · rw [if_pos hk2] at h
        by_cases hk' : k' < σ.length
        · simp only [if_pos hk'] at h'
          by_cases q : ∃ j : Nat, ms[j]? = some true ∧ rs[j]? = some (.top k') ∧ (putB ms rs fin s).getD k' .no = fin.getD j .no
          · rw [dif_pos q] at h'
            have qlt : q.choose < vs.length := by rw [hv]; exact (List.getElem?_eq_some_iff.mp q.choose_spec.2.1).1
            have e := Option.some.inj (h.trans h'.symm)
            omega
          · rw [dif_neg q] at h'
            have e := Option.some.inj (h.trans h'.symm)
            omega
        · simp only [if_neg hk'] at h'
          by_cases hk2' : k' < σ.length + ts.length
          · rw [if_pos hk2'] at h'
            have e := Option.some.inj (h.trans h'.symm)
            omega
          · rw [if_neg hk2'] at h'; cases h'
      · rw [if_neg hk2] at h; cases h
/-- the call, by the callee's text -/
theorem fCall_ok {sem : FSem} {ms : List Bool} {n : Nat} {σ : St} {H : Hp} {Q : VK} (hn : ms.length = n) (h : liftE X L (fCall sem ms fr) σ H Q) :
    tCallSD (liftSp X.K X.mg (ioOf ms) n sem) [] (fun σ cls d H => L.E cls d σ H) (liftA X L n fr) σ H Q := by
  obtain ⟨Z, Y, s, Xf, Qf, r, k, xo, h, q⟩ := h
  refine ⟨Z, Y, s, Xf, _, r, k, xo, h, fun vs H1 Z1 rs s1 hz rx hrn h1 => ?_⟩
  obtain ⟨Z2, svs, s2, hz2, r2, hls, hlv, hlm, h2⟩ := bindA_ok (us := []) (ds := []) (vs := vs) (by simpa using rx.rel) rx.l1 rfl rx.l2 rx.top h1
  simp only [List.nil_append] at r2
  have hσ : σ.length = s2.length := by rw [hls]; exact rx.l1
  have hts : (vs.map some).length = svs.length := by rw [List.length_map, hlv]
  -- the arguments alone
  have r3 : Rel X.K Z2 Y H1 ([] ++ vs.map some ++ σ) ([] ++ svs ++ s2) := Rel.swap (σa := []) (sa := []) (by simpa using r2) rfl hσ
  simp only [List.nil_append] at r3
  obtain ⟨Y', hy', r4, back, _⟩ := r3.frame hts
  have hvn : vs.length = n := by rw [rx.l2, hrn]
  rw [List.append_nil]
  refine ⟨Z2, Y', svs, _, _, hvn, r4, h2, fun u H' Z' σ' fin r' hz' keep hl' rx' nt hq => ?_, fun n' C H' Z' σ' fin hz' keep hl' r' hx m => ?_⟩
  · have b := back Z' H' _ _ hz' rx'.rel
    have lf : σ'.length = fin.length := rx'.l1
    have b2 := back_ok (ms := ms) (rs := rs) (vs := vs) b hσ lf (by simp) keep rx.l2 rx.top (by rw [← lf, hl', hvn])
    refine q u H' Z' r' _ ((hz.trans hz2).trans hz') ⟨b2, by rw [putB_len]; exact hσ, rfl, fun k i e => ?_⟩ hq
    cases k with
    | zero => exact absurd (by simpa using e) (nt i)
    | succ k => simp at e
  · have b := back Z' H' _ _ hz' r'
    have lf : σ'.length = fin.length := r'.len
    have b2 := back_ok (ts := []) (us := []) (ms := ms) (rs := rs) (vs := vs) (by simpa using b) hσ lf rfl keep rx.l2 rx.top (by rw [← lf, hl', hvn])
    simp only [List.append_nil] at b2
    exact xo n' C Z' H' σ _ ((hz.trans hz2).trans hz') k b2 hx m
variable {CX : CXT} {k : Nat} {f : Addr} {fd : FuncData} {ps : List Str} {x : Str}
theorem pf_call {sem : FSem} {ms : List Bool} (F : FnOk X.prog X.w X.K X.mg X.base CX k f fd ps (liftSp X.K X.mg (ioOf ms) (es.length + 1) sem)) (hr : Room k X.A) (hm : X.mg x = some (.ref f)) (hk : PySem.W.keepIn X.K (.ref f) = true) (hb : Binds X.K fd ps [])
    (hx : ∀ σ, PassesAt CX X σ (fun cls d H => L.E cls d σ H)) (ha : PFA X L (e :: es) fr) (hg : Gl X x := by rfl) (hn : ms.length = es.length + 1 := by rfl) (hdb : (x == ("__debug__" : Str)) = false := by decide) (he : starEach (e :: es) X.env = (false, eval e X.env) :: starEach es X.env := by rfl) (hpl : (backTo pos (starEach es X.env)).any (·.1) = false := by rfl) :
    PF X L (.Call (.Name x p) (e :: es) [] pos) (fCall sem ms fr) := PE_imp (pe_callSD F hr hg hm hk hb .nil hx ha hdb he hpl) fun σ H Q h => fCall_ok hn h
theorem pass0At : ∀ σ, PassesAt (L2.CX X.prog X.w) X σ (fun cls d H => L.in0.E cls d σ H) := fun σ pins H s e s' I c => passL pins σ H s e s' I c
variable {P : Program} {w : World} {K : PySem.W.Frag} {mg : Str → Option Value} {base : Heap}
theorem okStart {X : Cx} {N ps : List Str} {io : List Nat} {bd : FS} {vs : List V} {H : Hp} {Q : VK} {E : XK} (hnp : ps.length ≤ N.length) (h : liftSp X.K X.mg io ps.length (semOf ps.length N.length bd) vs H Q E) :
    liftS X ⟨fun cls d _ H => E cls d H, io, L2.start N vs⟩ bd { nx := fun _ H' => Q .non H', rt := Q } (L2.start N vs) H := by
  obtain ⟨Z, Y, svs, Xf, Qf, hl, r, hsem, hq, hx⟩ := h
  have hs : svs.length = ps.length := by have := r.len; rw [List.length_map] at this; omega
  have r0 : Rel X.K Z Y H (L2.start N vs) (svs ++ List.replicate (N.length - ps.length) .no) := by
    unfold L2.start
    rw [hl]
    generalize N.length - ps.length = n
    refine r.re (fun k => if k < svs.length then some k else none) (by simp [hs, hl]) (fun k => ?_) (fun k k' j h h' => ?_)
    · by_cases h : k < svs.length
      · simp only [if_pos h]
        exact ⟨by rw [getD_app_lt h], by rw [getD_app_lt (by simp; omega)]⟩
      · simp only [if_neg h]
        refine .inl ?_
        rw [getD_app_ge (by omega), List.getD_eq_getElem?_getD, List.getElem?_replicate]
        split <;> rfl
    · by_cases a : k < svs.length
      · by_cases b : k' < svs.length
        · rw [if_pos a] at h; rw [if_pos b] at h'; cases h; cases h'; rfl
        · rw [if_neg b] at h'; cases h'
      · rw [if_neg a] at h; cases h
  have tk : ∀ {Z' H' : Hp} {σ' ts : St} {s' us : S}, Rel X.K Z' Y H' (σ' ++ ts) (s' ++ us) → σ'.length = s'.length → Rel X.K Z' Y H' (σ'.take ps.length ++ ts) (s'.take ps.length ++ us) := by
    intro Z' H' σ' ts s' us r' hl'
    have hl2 := r'.len
    simp only [List.length_append] at hl2
    have g1 : ∀ j, j < (σ'.take ps.length).length → (σ'.take ps.length).getD j none = σ'.getD j none := fun j h => by
      rw [List.getD_eq_getElem?_getD, List.getD_eq_getElem?_getD, List.getElem?_take_of_lt (by rw [List.length_take] at h; omega)]
    have g2 : ∀ j, j < (s'.take ps.length).length → (s'.take ps.length).getD j .no = s'.getD j .no := fun j h => by
      rw [List.getD_eq_getElem?_getD, List.getD_eq_getElem?_getD, List.getElem?_take_of_lt (by rw [List.length_take] at h; omega)]
    have hm : (σ'.take ps.length).length = (s'.take ps.length).length := by rw [List.length_take, List.length_take, hl']
    generalize hA : σ'.take ps.length = σt at g1 hm
    generalize hB : s'.take ps.length = st' at g2 hm
    have hle : σt.length ≤ σ'.length := by rw [← hA, List.length_take]; omega
    refine r'.re (fun k => if k < σt.length then some k else if k < σt.length + ts.length then some (k - σt.length + σ'.length) else none) (by simp [hm]; omega) (fun k => ?_) (fun k k' j h h' => ?_)
    · by_cases h1 : k < σt.length
      · simp only [if_pos h1]
        exact ⟨by rw [getD_app_lt (by omega), getD_app_lt (by omega), g2 k (by omega)], by rw [getD_app_lt h1, getD_app_lt (by omega), g1 k h1]⟩
      · simp only [if_neg h1]
        by_cases h2 : k < σt.length + ts.length
        · simp only [if_pos h2]
          refine ⟨?_, ?_⟩
          · rw [getD_app_ge (by omega), getD_app_ge (by omega)]; congr 1; omega
          · rw [getD_app_ge (by omega), getD_app_ge (by omega)]; congr 1; omega
        · simp only [if_neg h2]
          exact .inl (getD_out (by simp; omega))
    · split at h <;> split at h' <;> (try split at h) <;> (try split at h') <;> (try cases h) <;> (try cases h') <;> (try injection h with h) <;> (try injection h' with h') <;> omega
  have tkl : ∀ {Z' H' : Hp} {σ' : St} {s' : S}, Rel X.K Z' Y H' σ' s' → Rel X.K Z' Y H' (σ'.take ps.length) (s'.take ps.length) := fun {Z' H' σ' s'} r' => by
    have := tk (ts := []) (us := []) (by simpa using r') r'.len
    simpa using this
  -- the lent parameters stay in their slots
  have kp : ∀ {σ' : St}, Lv.keeps ⟨fun cls d _ H => E cls d H, io, L2.start N vs⟩ σ' → ∀ k ∈ io, (σ'.take ps.length).getD k none = (vs.map some).getD k none := by
    intro σ' kk k hk
    by_cases hkp : k < ps.length
    · have q := kk.2 k hk
      have q : σ'.getD k none = (L2.start N vs).getD k none := q
      rw [List.getD_eq_getElem?_getD, List.getElem?_take_of_lt hkp, ← List.getD_eq_getElem?_getD, q]
      unfold L2.start
      rw [getD_app_lt (by simp; omega)]
    · rw [getD_out (by rw [List.length_take]; omega), getD_out (by rw [List.length_map]; omega)]
  have stl : (L2.start N vs).length = N.length := by unfold L2.start; simp; omega
  have tl : ∀ {σ' : St}, Lv.keeps ⟨fun cls d _ H => E cls d H, io, L2.start N vs⟩ σ' → (σ'.take ps.length).length = ps.length := fun {σ'} h => by
    have := h.1
    have : σ'.length = (L2.start N vs).length := this
    rw [List.length_take]; omega
  refine ⟨Z, Y, _, _, r0, ⟨rfl, fun _ _ => rfl⟩, hsem, fun σ' H' Z' s' hz kk r' h' => ?_, fun v σ' H' Z' r0' s' hz kk rx h' => ?_, fun _ _ _ _ _ _ _ h' => h'.elim, fun _ _ _ _ _ _ _ h' => h'.elim, fun n C Z' H' σ' s' hz kk r' h' m => ?_⟩
  · exact hq .non H' Z' (σ'.take ps.length) (s'.take ps.length) (.d .none) hz (kp kk) (tl kk) (.d (tkl r') .non) (fun i e => nomatch e) h'
  · have h' : outR r0' s' fun r' s'' => Qf r' (s''.take ps.length) := h'
    have fin : ∀ {s2 : S} {r2 : R}, (∀ i, r2 ≠ .top i) → Rel X.K Z' Y H' (σ' ++ [some v]) (s2 ++ [svR r2]) → σ'.length = s2.length → Qf r2 (s2.take ps.length) → Q v H' := fun {s2 r2} nt rl hl2 hq2 =>
      hq v H' Z' (σ'.take ps.length) (s2.take ps.length) r2 hz (kp kk) (tl kk) ⟨tk rl hl2, by rw [List.length_take, List.length_take, hl2], rfl, .one fun i e => absurd e (nt i)⟩ nt hq2
    cases r0' with
    | d x => exact fin (fun i e => by cases e) rx.rel rx.l1 h'
    | own w => exact fin (fun i e => by cases e) rx.rel rx.l1 h'
    | top i =>
      obtain ⟨hi, hv⟩ := rx.top 0 i rfl
      have his : i < s'.length := by rw [← rx.l1]; exact hi
      refine fin (s2 := s'.set i .no) (r2 := .own (s'.getD i .no)) (fun i e => by cases e) ?_ (by rw [List.length_set]; exact rx.l1) h'
      -- what the slot holds is handed out
      refine rx.rel.re (fun k => if k = σ'.length then some i else if k = i then none else some k) (by have := rx.l1; simp [this]) (fun k => ?_) (fun k k' j h h' => ?_)
      · by_cases hk : k = σ'.length
        · simp only [if_pos hk]
          refine ⟨?_, ?_⟩
          · rw [hk, getD_app_ge (by rw [List.length_set, rx.l1]; exact Nat.le_refl _), List.length_set, rx.l1, Nat.sub_self, getD_app_lt his]; rfl
          · rw [hk, getD_app_ge (Nat.le_refl _), Nat.sub_self, getD_app_lt hi, hv]; rfl
        · simp only [if_neg hk]
          by_cases h0 : k = i
          · simp only [if_pos h0]
            exact .inl (by rw [h0, getD_app_lt (by rw [List.length_set]; exact his), getD_set_self his])
          · simp only [if_neg h0]
            refine ⟨?_, rfl⟩
            have hl1 := rx.l1
            by_cases h1 : k < s'.length
            · rw [getD_app_lt (by rw [List.length_set]; exact h1), getD_app_lt h1, getD_set_ne (Ne.symm h0)]
            · rw [getD_out (by simp; omega), getD_out (by simp; omega)]
      · split at h <;> split at h' <;> (try split at h) <;> (try split at h') <;> (try cases h) <;> (try cases h') <;> (try injection h with h) <;> (try injection h' with h') <;> omega
  · exact hx n C H' Z' (σ'.take ps.length) (s'.take ps.length) hz (kp kk) (tl kk) (tkl r') h' m
theorem okF {q : Str} {st : Stmt} {N : List Str} {io : List Nat} {bd : FS} (F : Fun K x q st f fd) (sco : FnScope N ps (defScope st)) (hnp : ps.length ≤ N.length)
    (hb : ∀ (cdv : Value) (A : Around) (outer : List Env) (s : Shared) (H : Hp) (vs : List V) (E : XK), Room k (A.deeper (envOfC q (defScope st) s.heap.objs.size f cdv)) →
      PFSs (cxOf (L2.CX P w) P w K mg base N q (defScope st) f cdv A outer s H E) ⟨fun cls d _ H => E cls d H, io, L2.start N vs⟩ (defBody st) bd) :
    FnOk P w K mg base (L2.CX P w) (k + 1) f fd ps (liftSp K mg io ps.length (semOf ps.length N.length bd)) := by
  refine F.okX sco (fun vs H Q E ⟨_, _, _, _, _, hl, _⟩ => hl) fun cdv A outer s H vs Q E hr h => ⟨_, hb cdv A outer s H vs E hr, okStart hnp h⟩
end
end Hs
namespace Hs
open PySem
/-- factors whose product may be had; a divisor -/
def okM (i j : Int) : Prop := i.natAbs.log2 + j.natAbs.log2 < 1000000
def okD (j : Int) : Prop := 0 < j ∧ j.natAbs.log2 < 9000
def opAdd : V2 := fun d e Q => match d, e with
  | .int i, .int j => Q (.d (.int (i + j)))
  | .str x, .str y => x.length + y.length ≤ sizeLine ∧ Q (.d (.str (x ++ y)))
  | .list xs, .list ys => xs.length + ys.length ≤ sizeLine ∧ Q (.own (.l (xs ++ ys)))
  | .tuple xs, .tuple ys => xs.length + ys.length ≤ sizeLine ∧ Q (.d (.tuple (xs ++ ys)))
  | _, _ => False
def opSub : V2 := fun d e Q => match d, e with
  | .int i, .int j => Q (.d (.int (i - j)))
  | _, _ => False
def opMul : V2 := fun d e Q => match d, e with
  | .int i, .int j => okM i j ∧ Q (.d (.int (i * j)))
  | .list xs, .int k => -(2 ^ 63) ≤ k ∧ k < 2 ^ 63 ∧ xs.length * k.toNat ≤ sizeLine ∧ Q (.own (.l (List.replicate k.toNat xs).flatten))
  | .tuple xs, .int k => xs ≠ [] ∧ 0 ≤ k ∧ k ≤ 1000 ∧ xs.length ≤ 1000 ∧ Q (.d (.tuple (List.replicate k.toNat xs).flatten))
  | _, _ => False
def opFdiv : V2 := fun d e Q => match d, e with
  | .int i, .int j => okD j ∧ Q (.d (.int (i / j)))
  | _, _ => False
def opMod : V2 := fun d e Q => match d, e with
  | .int i, .int j => 0 < j ∧ Q (.d (.int (i % j)))
  | _, _ => False
def opPow : V2 := fun d e Q => match d, e with
  | .int i, .int j => 0 ≤ j ∧ j ≤ 1000000 ∧ i.natAbs < 2 ^ 64 ∧ Q (.d (.int (i ^ j.toNat)))
  | _, _ => False
def uNeg : V1 := fun d Q => match d with
  | .int i => Q (.d (.int (-i)))
  | _ => False
/-- what is compared: the text's own list as a list -/
def unlit : D → D
  | .dict [(.none, .list xs)] => .list xs
  | d => d
def cEq : V2 := fun d e Q => (∃ x y, d = .str x ∧ e = .str y ∧ Q (.d (.bool (decide (x = y))))) ∨ (SeqAt.shaped (unlit d) = true ∧ SeqAt.shaped (unlit e) = true ∧ Q (.d (.bool (PyData.eqv (unlit d) (unlit e)))))
def cNe : V2 := fun d e Q => (∃ x y, d = .str x ∧ e = .str y ∧ Q (.d (.bool (!decide (x = y))))) ∨ (SeqAt.shaped (unlit d) = true ∧ SeqAt.shaped (unlit e) = true ∧ Q (.d (.bool (!PyData.eqv (unlit d) (unlit e)))))
/-- xs[::-1] -/
def revD : V1 := fun d Q => match d with
  | .list xs => Q (.own (.l xs.reverse))
  | .tuple xs => Q (.d (.tuple xs.reverse))
  | _ => False
def intsOf : List D → Option (List Int)
  | [] => some []
  | .int i :: r => (intsOf r).map (i :: ·)
  | _ => none
def cLt : V2 := fun d e Q => match d, e with
  | .int i, .int j => Q (.d (.bool (decide (i < j))))
  | .tuple xs, .tuple ys => match intsOf xs, intsOf ys with
    | some ns, some ms => Q (.d (.bool (HT.lexLt ns ms)))
    | _, _ => False
  | _, _ => False
def cLe : V2 := fun d e Q => match d, e with
  | .int i, .int j => Q (.d (.bool (decide (i ≤ j))))
  | _, _ => False
def cGt : V2 := fun d e Q => match d, e with
  | .int i, .int j => Q (.d (.bool (decide (j < i))))
  | _, _ => False
def cGe : V2 := fun d e Q => match d, e with
  | .int i, .int j => Q (.d (.bool (decide (j ≤ i))))
  | _, _ => False
def cIn : V2 := fun d e Q => match e with
  | .list xs => SeqAt.shaped d = true ∧ SeqAt.shaped (.list xs) = true ∧ Q (.d (.bool (xs.any fun z => PyData.eqv z d)))
  | .tuple xs => SeqAt.shaped d = true ∧ SeqAt.shaped (.tuple xs) = true ∧ Q (.d (.bool (xs.any fun z => PyData.eqv z d)))
  | _ => False
def cNotIn : V2 := fun d e Q => match e with
  | .list xs => SeqAt.shaped d = true ∧ SeqAt.shaped (.list xs) = true ∧ Q (.d (.bool (!xs.any fun z => PyData.eqv z d)))
  | .tuple xs => SeqAt.shaped d = true ∧ SeqAt.shaped (.tuple xs) = true ∧ Q (.d (.bool (!xs.any fun z => PyData.eqv z d)))
  | _ => False
def isNone : D → Bool
  | .none => true
  | _ => false
def pairOf : D → Option (Int × Int)
  | .tuple [.int i, .int j] => some (i, j)
  | _ => none
def pairsOf : List D → Option (List (Int × Int))
  | [] => some []
  | x :: r => match pairOf x, pairsOf r with
    | some p, some ps => some (p :: ps)
    | _, _ => none
abbrev pairD (p : Int × Int) : D := .tuple [.int p.1, .int p.2]
def ltPr (p q : Int × Int) : Bool := decide (p.1 < q.1) || (p.1 == q.1 && decide (p.2 < q.2))
def cIs : V2 := fun d e Q => match d, e with
  | d, .none => Q (.d (.bool (isNone d)))
  | .bool a, .bool b => Q (.d (.bool (decide (a = b))))
  | _, _ => False
def cIsNot : V2 := fun d e Q => match d, e with
  | d, .none => Q (.d (.bool (!isNone d)))
  | .bool a, .bool b => Q (.d (.bool (!decide (a = b))))
  | _, _ => False
def ixD : V2 := fun d e Q => match d, e with
  | .list xs, .int i => match L2.atI xs i with
    | some x => Q (.d x)
    | none => False
  | .tuple xs, .int i => match L2.atI xs i with
    | some x => Q (.d x)
    | none => False
  | .str z, .int i => z.length ≤ sizeLine ∧ match L2.atI z.cps.toList i with
    | some c => Q (.d (.str ⟨#[c]⟩))
    | none => False
  | .dict [(.none, .list xs)], .int i => match L2.atI xs i with
    | some x => Q (.d x)
    | none => False
  | _, _ => False
def slD (d : D) (lo hi : Option Int) (Q : R → Prop) : Prop := match d with
  | .list xs => Q (.own (.l (cutL xs lo hi)))
  | .tuple xs => Q (.d (.tuple (cutL xs lo hi)))
  | _ => False
where cutL (xs : List D) (lo hi : Option Int) : List D := (xs.drop (HT.sIx xs.length 0 lo)).take (HT.sIx xs.length xs.length hi - HT.sIx xs.length 0 lo)
def bLen : VN := fun ds Q => match ds with
  | [.list xs] => Q (.d (.int (xs.length : Nat)))
  | [.tuple xs] => Q (.d (.int (xs.length : Nat)))
  | [.str x] => x.length ≤ sizeLine ∧ Q (.d (.int (x.length : Nat)))
  | [.dict [(.none, .list xs)]] => Q (.d (.int (xs.length : Nat)))
  | _ => False
def bAbs : VN := fun ds Q => match ds with
  | [.int i] => Q (.d (.int (if i < 0 then -i else i)))
  | _ => False
def bMax2 : VN := fun ds Q => match ds with
  | [.int i, .int j] => Q (.d (.int (if j > i then j else i)))
  | _ => False
def bMin2 : VN := fun ds Q => match ds with
  | [.int i, .int j] => Q (.d (.int (if j < i then j else i)))
  | _ => False
def bInt : VN := fun ds Q => match ds with
  | [.int i] => Q (.d (.int i))
  | [.bool b] => Q (.d (.int (if b then 1 else 0)))
  | _ => False
def bStr : VN := fun ds Q => match ds with
  | [.int i] => i.natAbs.log2 < 1920 ∧ Q (.d (.str (toString i)))
  | _ => False
def bTuple : VN := fun ds Q => match ds with
  | [.list xs] => Q (.d (.tuple xs))
  | [.tuple xs] => Q (.d (.tuple xs))
  | _ => False
def bList : VN := fun ds Q => match ds with
  | [.list xs] => Q (.own (.l xs))
  | [.tuple xs] => Q (.own (.l xs))
  | _ => False
def boolsOf : List D → Option (List Bool)
  | [] => some []
  | .bool i :: r => (boolsOf r).map (i :: ·)
  | _ => none
def bAll : VN := fun ds Q => match ds with
  | [.list xs] => match boolsOf xs with
    | some bs => Q (.d (.bool (bs.all id)))
    | none => False
  | _ => False
def bAny : VN := fun ds Q => match ds with
  | [.list xs] => match boolsOf xs with
    | some bs => Q (.d (.bool (bs.any id)))
    | none => False
  | _ => False
def isTy : String → D → Bool
  | "int", .int _ => true
  | "int", .bool _ => true
  | "bool", .bool _ => true
  | "tuple", .tuple _ => true
  | "list", .list _ => true
  | "str", .str _ => true
  | "dict", .dict _ => true
  | _, _ => false
def isLit : D → Bool
  | .dict ((.none, .none) :: _) => false
  | .dict ((.none, _) :: _) => true
  | _ => false
def bIs (T : String) : V1 := fun d Q => isLit d = false ∧ Q (.d (.bool (isTy T d)))
end Hs
namespace Hs
open PySem PySem.Spec PyProof.Rows L2
section
variable {X : Cx} {L : Lv} {e a b c : Expr} {es : List Expr} {fa fb fc : FE} {ft fu : FT} {fr : FA} {pos p : Pos}
variable {K : PySem.W.Frag} {Z H : Hp}
theorem add_lists {pins : List (Addr × Obj)} {s : Shared} {σ : St} {H : Hp} {l b : Addr} {xs zs : List V} {Q : VK} (I : Inv X pins σ H s) (hH : Rd H l (.lst xs)) (hB : Rd H b (.lst zs)) (hz : xs.length + zs.length ≤ sizeLine) (q : ∀ p, H p = none → Q (.ref p) (upd H p (.lst (xs ++ zs)))) :
    wpAny (model X.prog X.w) X.A (binaryOp .Add (.ref l) (.ref b)) (EP X pins σ Q) X.xe s := by
  obtain ⟨hl, its, n, r, e⟩ := hH.ok I.hok
  obtain ⟨hl2, its2, n2, r2, e2⟩ := hB.ok I.hok
  have h1 := r.length
  have h2 := r2.length
  refine PySem.P.add_list e e2 ?g ?z
  case z => simp only [List.size_toArray]; omega
  have ea : its.toArray ++ its2.toArray = (its ++ its2).toArray := by simp
  rw [ea]
  exact ⟨.ref _, _, I.lnew (t' := s.toks) (r.append r2) (by rw [List.length_append]; omega), rfl, q _ I.fresh⟩
theorem fop_add : OpR X (binaryOp .Add) (rF2 X.K opAdd) := by
  intro pins s σ H x y v u Q I rx ry ⟨Z, d, e, Qf, hz, hd, he, g, q⟩
  unfold opAdd at g
  split at g
  · cases hd.int; cases he.int
    exact op_add pins s σ H _ _ v u Q I rx ry ⟨_, _, rfl, rfl, q _ H Z _ (.d hz (.int _)) g⟩
  · cases hd.str; cases he.str
    exact op_add_str pins s σ H _ _ v u Q I rx ry ⟨_, _, rfl, rfl, g.1, q _ H Z _ (.d hz (.str _)) g.2⟩
  · obtain ⟨p, vs, rfl, h1, h2, h3⟩ := hd.list hz
    obtain ⟨p', vs', rfl, h1', h2', h3'⟩ := he.list hz
    cases rx; cases ry
    have l1 := h3.length
    have l2 := h3'.length
    exact add_lists I h1 h1' (by omega) fun n hn => q _ _ Z _ (.lst hz hn (by rw [List.length_append]; omega) (h3.append h3')) g.2
  · obtain ⟨p, vs, rfl, h1, h2, h3⟩ := hd.tuple hz
    obtain ⟨p', vs', rfl, h1', h2', h3'⟩ := he.tuple hz
    have l1 := h3.length
    have l2 := h3'.length
    refine op_catA pins s σ H _ _ v u Q I rx ry ⟨p, p', vs, vs', rfl, rfl, h1, h1', by omega, fun e => ?_, fun e1 e2 => ?_, fun e1 e2 n hn => ?_⟩
    · subst e
      cases h3
      have ez : Rp X.K Z (.ref p') (.tuple _) := RpV.tupZ he
      exact q _ H Z _ (.d hz ez) g.2
    · subst e2
      cases h3'
      have ez : Rp X.K Z (.ref p) (.tuple _) := RpV.tupZ hd
      rw [List.append_nil] at g
      exact q _ H Z _ (.d hz ez) g.2
    · exact q _ _ _ _ (.tup hz hn (by rw [List.length_append]; omega) (h3.append h3')) g.2
  · exact g.elim
where
  RpV.tupZ {K : PySem.W.Frag} {Z H : Hp} {v : V} {xs : List D} (r : RpV K Z H v (.tuple xs)) : Rp K Z v (.tuple xs) := by
    rcases r with r | ⟨p, vs, xs', rfl, e2, h, z, a⟩ | ⟨p, kvs, rfl, e2, h⟩
    · exact r
    · cases e2
    · cases e2
theorem fop_sub : OpR X (binaryOp .Sub) (rF2 X.K opSub) := by
  intro pins s σ H x y v u Q I rx ry ⟨Z, d, e, Qf, hz, hd, he, g, q⟩
  unfold opSub at g
  split at g
  · cases hd.int; cases he.int
    exact op_sub pins s σ H _ _ v u Q I rx ry ⟨_, _, rfl, rfl, q _ H Z _ (.d hz (.int _)) g⟩
  · exact g.elim
theorem rep_list {pins : List (Addr × Obj)} {s : Shared} {σ : St} {H : Hp} {l : Addr} {k : Int} {t : Tok} {xs : List V} {Q : VK} (I : Inv X pins σ H s) (hH : Rd H l (.lst xs)) (h1 : -(2 ^ 63) ≤ k) (h2 : k < 2 ^ 63) (hz : xs.length * k.toNat ≤ sizeLine) (q : ∀ p, H p = none → Q (.ref p) (upd H p (.lst (List.replicate k.toNat xs).flatten))) :
    wpAny (model X.prog X.w) X.A (binaryOp .Mult (.ref l) (.int k t)) (EP X pins σ Q) X.xe s := by
  obtain ⟨_, its, n, r, e⟩ := hH.ok I.hok
  have hl := r.length
  have hlen : its.toArray.size * k.toNat ≤ sizeLine := by rw [List.size_toArray, ← hl]; exact hz
  have hcap : ¬ its.toArray.size * k.toNat > (2 ^ 63 - 1) / 8 := by
    have : (sizeLine : Nat) ≤ (2 ^ 63 - 1) / 8 := by decide
    omega
  have hfit : ¬ (!Builtin.List.listFitsIndex k) = true := by
    rw [fitsIndex_both h1 h2]
    exact Bool.false_ne_true
  have hlong : ¬ Builtin.List.listTooLong (its.toArray.size * k.toNat) = true := by
    rw [notLongL hlen]
    exact Bool.false_ne_true
  have hnew : List.foldl (fun x1 x2 => x1 ++ x2) #[] (List.replicate (if its.toArray.isEmpty = true then 0 else k.toNat) its.toArray) = (List.replicate k.toNat its).flatten.toArray := by
    have f0 : ∀ m : Nat, List.foldl (fun x1 x2 => x1 ++ x2) #[] (List.replicate m its.toArray) = (List.replicate m its).flatten.toArray := fun m => by
      have := foldl_rep its m []
      rw [List.nil_append] at this
      exact this
    rw [f0]
    cases its with
    | nil => simp
    | cons a r' => rw [if_neg (by simp)]
  refine wpAny_binaryOp_repeat_ref (T := "list") (U := "int") (by decide) ⟨_, e, rfl⟩ (fun s' => typeIs_int s' k t) noFill_list_mul F.fills_int_mul F.slot_int_rmul repeat_list F.slot_int_index.lookup
    (call_meets F.slot_int_rmul (typeIs_int s k t) F.entry_int_rmul (F.args_int_rmul_2 _ _) (int___rmul___int_list k t l its.toArray n)
      ⟨e, rfl, ⟨_, e, rfl⟩, call_meets F.slot_list_mul ⟨_, e, rfl⟩ F.entry_list_mul (F.args_list_mul_2 _ _) (AutoListH.list___mul___list_int_3 l its.toArray n k t hfit hcap hlong) ⟨e, ?_⟩⟩)
  rw [hnew]
  exact ⟨.ref _, _, I.lnew (t' := s.toks) (r.rep k.toNat) (by rw [PyProof.Rows.lm_len_rep_flat, Nat.mul_comm]; exact hz), rfl, q _ I.fresh⟩
theorem tmul_one (l : Addr) (items : Array Value) (n : Nat) (dd : Option Addr) (sl : Array (Option Value)) (u : Tok) :
    Meets (Builtin.«tuple.__mul__» ⟨[.ref l, .int 1 u], []⟩) (fun _ R s => s.heap.get? l = some { cls := .type "tuple", dict := dd, data := .seq items n, slots := sl } ∧ R (.ok (.ret (Value.ref l))) s) :=
  .of_wp fun prog w A R s h => by
    obtain ⟨hp, g, d, tk, os⟩ := s
    obtain ⟨hl, h⟩ := h
    have f1 := AutoSeq1.idx_int
    wp_walk using wpAny_loadPart' hl
    repeat (first
      | (refine wpAny_ite_true (by simp) ?_; wp_walk using wpAny_loadPart' hl)
      | (refine wpAny_ite_false (by simp) ?_; wp_walk using wpAny_loadPart' hl))
    exact ⟨_, rfl, h⟩
theorem tmul_none (l : Addr) (items : Array Value) (n : Nat) (dd : Option Addr) (sl : Array (Option Value)) (u : Tok) (hne : items.isEmpty = false) :
    Meets (Builtin.«tuple.__mul__» ⟨[.ref l, .int 0 u], []⟩) (fun _ R s => s.heap.get? l = some { cls := .type "tuple", dict := dd, data := .seq items n, slots := sl } ∧
      R (.ok (.ret (Value.ref s.heap.objs.size))) { s with heap := s.heap.push { cls := Value.type "tuple", data := Data.seq #[] }, toks := s.toks }) :=
  .of_wp fun prog w A R s h => by
    obtain ⟨hp, g, d, tk, os⟩ := s
    obtain ⟨hl, h⟩ := h
    have f1 := AutoSeq1.idx_int
    have z0 : (#[] : Array Value).size ≤ sizeLine := Nat.zero_le _
    wp_walk using wpAny_loadPart' hl
    repeat (first
      | (refine wpAny_ite_true (by simp [hne]) ?_; wp_walk using wpAny_loadPart' hl)
      | (refine wpAny_ite_false (by simp [hne]) ?_; wp_walk using wpAny_loadPart' hl))
    exact ⟨_, rfl, h⟩
theorem rep_tuple {pins : List (Addr × Obj)} {s : Shared} {σ : St} {H : Hp} {l : Addr} {k : Int} {t : Tok} {xs : List V} {Q : VK} (I : Inv X pins σ H s) (hT : SqT X.K H l xs) (hne : xs ≠ []) (hk : k = 0 ∨ k = 1) (q1 : k = 1 → Q (.ref l) H) (q0 : k = 0 → ∀ p, H p = none → Q (.ref p) (upd H p (.tup []))) :
    wpAny (model X.prog X.w) X.A (binaryOp .Mult (.ref l) (.int k t)) (EP X pins σ Q) X.xe s := by
  obtain ⟨its, r, ⟨⟨cls, dd, data, sl⟩, ho, hc, n, hd⟩, hs⟩ := I.tuple hT
  simp only at hc hd
  subst hc hd
  have full : its.toArray.isEmpty = false := by
    cases r with
    | nil => exact absurd rfl hne
    | cons _ _ => rfl
  refine wpAny_binaryOp_repeat_ref (T := "tuple") (U := "int") (by decide) ⟨_, ho, rfl⟩ (fun s' => typeIs_int s' k t) noFill_tuple_mul F.fills_int_mul F.slot_int_rmul repeat_tuple F.slot_int_index.lookup ?_
  refine call_meets F.slot_int_rmul (typeIs_int s k t) F.entry_int_rmul (F.args_int_rmul_2 _ _) (int_rmul_tuple k t l its.toArray n dd sl) ⟨ho, rfl, ⟨_, ho, rfl⟩, ?_⟩
  rcases hk with rfl | rfl
  · refine call_meets F.slot_tuple_mul ⟨_, ho, rfl⟩ F.entry_tuple_mul (F.args_tuple_mul_2 _ _) (tmul_none l its.toArray n dd sl t full) ⟨ho, ?_⟩
    exact ⟨.ref s.heap.objs.size, _, I.laid (t' := s.toks) (o := .tup []) (fun b ob q => Heap.get?_push_of_some _ q) (Nat.le_refl _) ⟨Nat.zero_le _, [], .nil, IsTup.new _ _⟩, rfl, q0 rfl _ (I.hok.fresh (Nat.le_refl _))⟩
  · refine call_meets F.slot_tuple_mul ⟨_, ho, rfl⟩ F.entry_tuple_mul (F.args_tuple_mul_2 _ _) (tmul_one l its.toArray n dd sl t) ⟨ho, ?_⟩
    exact ⟨.ref l, H, I, rfl, q1 rfl⟩
theorem fop_mul : OpR X (binaryOp .Mult) (rF2 X.K opMul) := by
  intro pins s σ H x y v u Q I rx ry ⟨Z, d, e, Qf, hz, hd, he, g, q⟩
  unfold opMul at g
  split at g
  · cases hd.int; cases he.int
    exact op_mulW pins s σ H _ _ v u Q I rx ry ⟨_, _, rfl, rfl, g.1, q _ H Z _ (.d hz (.int _)) g.2⟩
  · obtain ⟨p, vs, rfl, h1, h2, h3⟩ := hd.list hz
    cases he.int
    cases rx
    obtain ⟨t, rfl⟩ := ry
    have l1 := h3.length
    have rr : ∀ n : Nat, RpAll X.K Z (List.replicate n vs).flatten (List.replicate n _).flatten := fun n => by
      induction n with
      | zero => exact .nil
      | succ n ih => rw [List.replicate_succ, List.flatten_cons, List.replicate_succ, List.flatten_cons]; exact h3.append ih
    refine rep_list I h1 g.1 g.2.1 (by rw [l1]; exact g.2.2.1) fun n hn => q _ _ Z _ (.lst hz hn ?_ (rr _)) g.2.2.2
    rw [(rr _).length, List.length_flatten, List.map_replicate, List.sum_replicate_nat, Nat.mul_comm]
    exact g.2.2.1
  · obtain ⟨g1, g2, g3, g4, g5⟩ := g
    obtain ⟨p, vs, rfl, h1, h2, h3⟩ := hd.tuple hz
    have ez : Rp X.K Z (.ref p) (.tuple _) := fop_add.RpV.tupZ hd
    cases he.int
    have l1 := h3.length
    have rr : ∀ n : Nat, RpAll X.K Z (List.replicate n vs).flatten (List.replicate n _).flatten := fun n => by
      induction n with
      | zero => exact .nil
      | succ n ih => rw [List.replicate_succ, List.flatten_cons, List.replicate_succ, List.flatten_cons]; exact h3.append ih
    have hne : vs ≠ [] := fun e => g1 (List.eq_nil_of_length_eq_zero (by rw [← l1, e]; rfl))
    rename_i k
    by_cases hk : k = 0 ∨ k = 1
    · obtain ⟨t, rfl⟩ := ry
      cases rx
      refine rep_tuple I h1 hne hk (fun e => ?_) fun e n hn => ?_
      · subst e
        rw [show (List.replicate (1 : Int).toNat _).flatten = _ from List.append_nil _] at g5
        exact q _ H Z _ (.d hz ez) g5
      · subst e
        exact q _ _ _ _ (.tup hz hn (Nat.zero_le _) .nil) g5
    · refine op_repT pins s σ H _ _ v u Q I rx ry ⟨p, k, vs, rfl, rfl, h1, hne, by omega, g3, by omega, fun n hn => ?_⟩
      refine q _ _ _ _ (.tup hz hn ?_ (rr _)) g5
      rw [(rr _).length, List.length_flatten, List.map_replicate, List.sum_replicate_nat]
      show _ ≤ 16777216
      have a1 : k.toNat * _ ≤ 1000 * 1000 := Nat.mul_le_mul (by omega) g4
      omega
  · exact g.elim
theorem fop_fdiv : OpR X (binaryOp .FloorDiv) (rF2 X.K opFdiv) := by
  intro pins s σ H x y v u Q I rx ry ⟨Z, d, e, Qf, hz, hd, he, g, q⟩
  unfold opFdiv at g
  split at g
  · cases hd.int; cases he.int
    exact op_fdivW pins s σ H _ _ v u Q I rx ry ⟨_, _, rfl, rfl, g.1, q _ H Z _ (.d hz (.int _)) g.2⟩
  · exact g.elim
theorem fop_mod : OpR X (binaryOp .Mod) (rF2 X.K opMod) := by
  intro pins s σ H x y v u Q I rx ry ⟨Z, d, e, Qf, hz, hd, he, g, q⟩
  unfold opMod at g
  split at g
  · cases hd.int; cases he.int
    refine op_modN pins s σ H _ _ v u Q I rx ry ⟨_, _, rfl, rfl, by have := g.1; omega, ?_⟩
    have g1 := g.1
    show Q (.int (Int.fmod _ _)) H
    rw [Int.fmod_eq_emod_of_nonneg _ (by omega)]
    exact q _ H Z _ (.d hz (.int _)) g.2
  · exact g.elim
theorem fop_pow : OpR X (binaryOp .Pow) (rF2 X.K opPow) := by
  intro pins s σ H x y v u Q I rx ry ⟨Z, d, e, Qf, hz, hd, he, g, q⟩
  unfold opPow at g
  split at g
  · cases hd.int; cases he.int
    exact op_pow pins s σ H _ _ v u Q I rx ry ⟨_, _, rfl, rfl, ⟨g.1, g.2.1, g.2.2.1⟩, q _ H Z _ (.d hz (.int _)) g.2.2.2⟩
  · exact g.elim
mutual
theorem Rp.dp : ∀ (d : PyData) (v : V), d.canLay0 = true → Rp K H v d → Dp K H v d
  | .none, _, _, .non => .non
  | .bool _, _, _, .bl b => .bl b
  | .int _, _, _, .int i => .int i
  | .str _, _, _, .str x => .str x
  | .list ds, _, h, .lst q z a => .lst (.inl q) (RpAll.dp ds _ (by simpa [PyData.canLay0] using h) a)
  | .tuple ds, _, h, .tup q z a => .tup (tupSq q) (RpAll.dp ds _ (by simpa [PyData.canLay0] using h) a)
  | .dict _, _, h, _ => by simp [PyData.canLay0] at h
theorem RpAll.dp : ∀ (ds : List PyData) (vs : List V), PyData.canLayAll0 ds = true → RpAll K H vs ds → DpAll K H vs ds
  | [], _, _, .nil => .nil
  | d :: ds, _, h, .cons r a => by
    have h' : d.canLay0 = true ∧ PyData.canLayAll0 ds = true := by simpa [PyData.canLayAll0] using h
    exact .cons (Rp.dp d _ h'.1 r) (RpAll.dp ds _ h'.2 a)
end
theorem RpV.dp {v : V} {d : D} (r : RpV K Z H v d) (e : Same Z H) (h : SeqAt.shaped d = true) : Dp K H v d := Rp.dp d v (SeqAt.canLay_of_shaped h) (r.rp e)
theorem RpV.dpU {v : V} {d : D} (r : RpV K Z H v d) (e : Same Z H) (h : SeqAt.shaped (unlit d) = true) : Dp K H v (unlit d) := by
  revert h
  unfold unlit
  split
  · rename_i xs
    intro h
    obtain ⟨p, ns, rfl, rfl, h1, h2⟩ := r.lit e
    exact .lst h1 (dpInts ns)
  · intro h
    exact r.dp e h
where dpInts : ∀ ns : List Int, DpAll K H (ns.map V.int) (ns.map PyData.int)
  | [] => .nil
  | n :: ns => .cons (.int n) (dpInts ns)
theorem fop_eq (hu : X.A.units + 64 < cLine) : OpR X (compareOp .Eq) (rF2 X.K cEq) := by
  intro pins s σ H x y v u Q I rx ry ⟨Z, d, e, Qf, hz, hd, he, g, q⟩
  rcases g with ⟨z, z', rfl, rfl, g⟩ | ⟨g1, g2, g⟩
  · cases hd.str; cases he.str
    refine op_eq pins s σ H _ _ v u Q I rx ry ⟨rfl, ?_⟩
    rw [show decide (V.str z = V.str z') = decide (z = z') by simp]
    exact q _ H Z _ (.d hz (.bl _)) g
  exact op_eqD hu pins s σ H x y v u Q I rx ry ⟨_, _, hd.dpU hz g1, he.dpU hz g2, g1, g2, q _ H Z _ (.d hz (.bl _)) g⟩
theorem fop_ne (hu : X.A.units + 64 < cLine) : OpR X (compareOp .NotEq) (rF2 X.K cNe) := by
  intro pins s σ H x y v u Q I rx ry ⟨Z, d, e, Qf, hz, hd, he, g, q⟩
  rcases g with ⟨z, z', rfl, rfl, g⟩ | ⟨g1, g2, g⟩
  · cases hd.str; cases he.str
    refine op_ne pins s σ H _ _ v u Q I rx ry ⟨rfl, ?_⟩
    rw [show decide (V.str z = V.str z') = decide (z = z') by simp]
    exact q _ H Z _ (.d hz (.bl _)) g
  exact op_neD hu pins s σ H x y v u Q I rx ry ⟨_, _, hd.dpU hz g1, he.dpU hz g2, g1, g2, q _ H Z _ (.d hz (.bl _)) g⟩
theorem intsOf_eq : ∀ {xs : List D} {ns : List Int}, intsOf xs = some ns → xs = ns.map PyData.int
  | [], ns, h => by cases h; rfl
  | x :: xs, ns, h => by
    cases x with
    | int i =>
      unfold intsOf at h
      cases e : intsOf xs with
      | none => rw [e] at h; cases h
      | some ms =>
        rw [e] at h
        cases h
        rw [intsOf_eq e]; rfl
    | _ => unfold intsOf at h; cases h
theorem boolsOf_eq : ∀ {xs : List D} {ns : List Bool}, boolsOf xs = some ns → xs = ns.map PyData.bool
  | [], ns, h => by cases h; rfl
  | x :: xs, ns, h => by
    cases x with
    | bool i =>
      unfold boolsOf at h
      cases e : boolsOf xs with
      | none => rw [e] at h; cases h
      | some ms =>
        rw [e] at h
        cases h
        rw [boolsOf_eq e]; rfl
    | _ => unfold boolsOf at h; cases h
theorem boolsOf_map : ∀ ns : List Bool, boolsOf (ns.map PyData.bool) = some ns
  | [] => rfl
  | n :: ns => by show (boolsOf (ns.map PyData.bool)).map (n :: ·) = _; rw [boolsOf_map ns]; rfl
theorem fop_lt (hu : X.A.units < cLine) : OpR X (compareOp .Lt) (rF2 X.K cLt) := by
  intro pins s σ H x y v u Q I rx ry ⟨Z, d, e, Qf, hz, hd, he, g, q⟩
  unfold cLt at g
  split at g
  · cases hd.int; cases he.int
    exact op_lt pins s σ H _ _ v u Q I rx ry ⟨_, _, rfl, rfl, q _ H Z _ (.d hz (.bl _)) g⟩
  · split at g
    · rename_i ns ms e1 e2
      obtain ⟨p, vs, rfl, h1, h2, h3⟩ := hd.tuple hz
      obtain ⟨p', vs', rfl, h1', h2', h3'⟩ := he.tuple hz
      rw [intsOf_eq e1] at h3
      rw [intsOf_eq e2] at h3'
      rw [h3.ints] at h1
      rw [h3'.ints] at h1'
      exact op_ltT hu pins s σ H _ _ v u Q I rx ry ⟨p, p', ns, ms, rfl, rfl, h1, h1', q _ H Z _ (.d hz (.bl _)) g⟩
    · exact g.elim
  · exact g.elim
theorem fop_le : OpR X (compareOp .LtE) (rF2 X.K cLe) := by
  intro pins s σ H x y v u Q I rx ry ⟨Z, d, e, Qf, hz, hd, he, g, q⟩
  unfold cLe at g
  split at g
  · cases hd.int; cases he.int
    exact op_le pins s σ H _ _ v u Q I rx ry ⟨_, _, rfl, rfl, q _ H Z _ (.d hz (.bl _)) g⟩
  · exact g.elim
theorem fop_gt : OpR X (compareOp .Gt) (rF2 X.K cGt) := by
  intro pins s σ H x y v u Q I rx ry ⟨Z, d, e, Qf, hz, hd, he, g, q⟩
  unfold cGt at g
  split at g
  · cases hd.int; cases he.int
    exact op_gt pins s σ H _ _ v u Q I rx ry ⟨_, _, rfl, rfl, q _ H Z _ (.d hz (.bl _)) g⟩
  · exact g.elim
theorem fop_ge : OpR X (compareOp .GtE) (rF2 X.K cGe) := by
  intro pins s σ H x y v u Q I rx ry ⟨Z, d, e, Qf, hz, hd, he, g, q⟩
  unfold cGe at g
  split at g
  · cases hd.int; cases he.int
    exact op_ge pins s σ H _ _ v u Q I rx ry ⟨_, _, rfl, rfl, q _ H Z _ (.d hz (.bl _)) g⟩
  · exact g.elim
theorem fop_in (hu : X.A.units + 65 < cLine) : OpR X (compareOp .In) (rF2 X.K cIn) := by
  intro pins s σ H x y v u Q I rx ry ⟨Z, d, e, Qf, hz, hd, he, g, q⟩
  unfold cIn at g
  split at g
  · exact op_inD hu pins s σ H _ _ v u Q I rx ry ⟨d, _, hd.dp hz g.1, he.dp hz g.2.1, g.1, g.2.1, q _ H Z _ (.d hz (.bl _)) g.2.2⟩
  · obtain ⟨as, r1⟩ := Dp.reads I d x v (hd.dp hz g.1) rx
    obtain ⟨bs, r2⟩ := Dp.reads I _ y u (he.dp hz g.2.1) ry
    exact SeqAt.in_tuple_reads r2 r1 (by have := SeqAt.canLay_of_shaped g.2.1; simpa [PyData.canLay0] using this) (SeqAt.canLay_of_shaped g.1) (room_in_shaped g.1 hu) ⟨.bl _, H, I, rfl, q _ H Z _ (.d hz (.bl _)) g.2.2⟩
  · exact g.elim
theorem rp_none {v : V} {d : D} (r : Rp K H v d) : decide (v = .non) = isNone d := by cases r <;> rfl
theorem fop_is : OpR X (compareOp .Is) (rF2 X.K cIs) := by
  intro pins s σ H x y v u Q I rx ry ⟨Z, d, e, Qf, hz, hd, he, g, q⟩
  unfold cIs at g
  split at g
  · cases he.non
    refine op_isN pins s σ H _ _ v u Q I rx ry ⟨rfl, ?_⟩
    rw [rp_none (hd.rp hz)]
    exact q _ H Z _ (.d hz (.bl _)) g
  · cases hd.bool; cases he.bool
    exact op_is_bl pins s σ H _ _ v u Q I rx ry ⟨_, _, rfl, rfl, q _ H Z _ (.d hz (.bl _)) g⟩
  · exact g.elim
theorem fop_isNot : OpR X (compareOp .IsNot) (rF2 X.K cIsNot) := by
  intro pins s σ H x y v u Q I rx ry ⟨Z, d, e, Qf, hz, hd, he, g, q⟩
  unfold cIsNot at g
  split at g
  · cases he.non
    refine op_notN pins s σ H _ _ v u Q I rx ry ⟨rfl, ?_⟩
    rw [rp_none (hd.rp hz)]
    exact q _ H Z _ (.d hz (.bl _)) g
  · cases hd.bool; cases he.bool
    exact op_isnot_bl pins s σ H _ _ v u Q I rx ry ⟨_, _, rfl, rfl, q _ H Z _ (.d hz (.bl _)) g⟩
  · exact g.elim
theorem RpAll.atI {vs : List V} {ds : List D} {i : Int} {d : D} (r : RpAll K Z vs ds) (e : L2.atI ds i = some d) : ∃ v, L2.atI vs i = some v ∧ Rp K Z v d := by
  unfold L2.atI at e ⊢
  rw [r.length]
  cases h : ixN ds.length i with
  | none => rw [h] at e; cases e
  | some j => rw [h] at e; exact r.get e
theorem fix_d : IxR X (rF2 X.K ixD) := by
  intro value slice pins s σ H x y v u Q I rx ry ⟨Z, d, e, Qf, hz, hd, he, g, q⟩ hpl
  unfold ixD at g
  split at g
  · split at g
    · obtain ⟨p, vs, rfl, h1, h2, h3⟩ := hd.list hz
      cases he.int
      obtain ⟨w, hw, rw'⟩ := h3.atI (by assumption)
      exact ix_list value slice pins s σ H _ _ v u Q I rx ry ⟨p, vs, _, w, rfl, rfl, .inl h1, hw, q _ H Z _ (.d hz rw') g⟩ hpl
    · exact g.elim
  · split at g
    · obtain ⟨p, vs, rfl, h1, h2, h3⟩ := hd.tuple hz
      cases he.int
      obtain ⟨w, hw, rw'⟩ := h3.atI (by assumption)
      exact ix_tup value slice pins s σ H _ _ v u Q I rx ry ⟨p, vs, _, w, rfl, rfl, h1, hw, q _ H Z _ (.d hz rw') g⟩ hpl
    · exact g.elim
  · obtain ⟨g1, g2⟩ := g
    split at g2
    · cases hd.str
      cases he.int
      exact ix_str value slice pins s σ H _ _ v u Q I rx ry ⟨_, _, _, rfl, rfl, g1, by assumption, q _ H Z _ (.d hz (.str _)) g2⟩ hpl
    · exact g2.elim
  · split at g
    · obtain ⟨p, ns, rfl, rfl, h1, h2⟩ := hd.lit hz
      cases he.int
      rename_i x heq
      obtain ⟨w, hw, rz⟩ := RpAll.atI (RpAll.of_ints (K := X.K) (H := Z) ns) heq
      exact ix_list value slice pins s σ H _ _ v u Q I rx ry ⟨p, _, _, w, rfl, rfl, h1, hw, q _ H Z _ (.d hz rz) g⟩ hpl
    · exact g.elim
  · exact g.elim
end
end Hs
namespace Hs
open PySem PySem.Spec PyProof.Rows L2
section
variable {X : Cx} {L : Lv} {e a b c : Expr} {es : List Expr} {fa fb fc : FE} {ft fu : FT} {fr : FA} {pos p : Pos}
variable {K : PySem.W.Frag}
def liftO (X : Cx) (L : Lv) (fo : FO) : TO := fun σ H Q => ∃ Z Y s Xf Qf, Rel X.K Z Y H σ s ∧ L.keeps σ ∧ XOk X L Z Y Xf ∧ fo Xf s Qf ∧ ∀ o H' Z' s', Same Z Z' → Rel X.K Z' Y H' σ s' → Qf o s' → Q o H'
def PFO (X : Cx) (L : Lv) (e : Option Expr) (fo : FO) : Prop := PO X e (liftO X L fo)
theorem PO_imp {eo : Option Expr} {t t' : TO} (h : PO X eo t) (hi : ∀ σ H Q, t' σ H Q → t σ H Q) : PO X eo t' := ⟨fun pins s σ H Q I q => h.run pins s σ H Q I (hi σ H Q q)⟩
theorem pfo_none : PFO X L none fNoPart := PO_imp po_none fun σ H Q ⟨Z, Y, s, Xf, Qf, r, k, xo, h, q⟩ => q none H Z s (Same.refl _) r h
theorem pfo_some (h : PF X L e fa) : PFO X L (some e) (fPart fa) := PO_imp (po_some h) fun σ H Q ⟨Z, Y, s, Xf, Qf, r, k, xo, h, q⟩ => by
  refine ⟨Z, Y, s, Xf, _, r, k, xo, h, fun v H1 Z1 r1 s1 hz rx h1 => ?_⟩
  split at h1
  · exact ⟨_, rx.vi, q _ H1 Z1 s1 hz rx.rel0 h1⟩
  · exact h1.elim
def rFs (K : PySem.W.Frag) (g : D → Option Int → Option Int → (R → Prop) → Prop) : V → Option Int → Option Int → Hp → VK → Prop := fun x lo hi H Q => ∃ Z d Qf, Same Z H ∧ RpV K Z H x d ∧ g d lo hi Qf ∧ ∀ u H' Z' r, NewR K Z H Z' H' u r → Qf r → Q u H'
theorem fSl_ok {g : D → Option Int → Option Int → (R → Prop) → Prop} {fl fh : FO} {σ : St} {H : Hp} {Q : VK} (h : liftE X L (fSl g fa fl fh) σ H Q) : tSl (rFs X.K g) (liftE X L fa) (liftO X L fl) (liftO X L fh) σ H Q := by
  obtain ⟨Z, Y, s, Xf, Qf, r, k, xo, h, q⟩ := h
  refine ⟨Z, Y, s, Xf, _, r, k, xo, h, fun v H1 Z1 r1 s1 hz rx h1 => ?_⟩
  obtain ⟨Y', hy, rl, bk, fw⟩ := rx.frame
  refine ⟨Z1, Y', s1, Xf, _, rl, k, (xo.z hz).mono (Same.refl _) bk, h1, fun lo H2 Z2 s2 hz2 r2 h2 => ?_⟩
  refine ⟨Z2, Y', s2, Xf, _, r2, k, (xo.z (hz.trans hz2)).mono (Same.refl _) fun Z' H' σ' s' hz' => bk Z' H' σ' s' (hz2.trans hz'), h2, fun hi H3 Z3 s3 hz3 r3 h3 => ?_⟩
  have rx3 := fw Z3 H3 s3 [] [] (hz2.trans hz3) (.nil r3)
  obtain ⟨d, e1, h4⟩ := look_ok h3
  obtain ⟨v', ev, rv⟩ := rx3.look (k := 0) rfl e1
  cases ev
  exact ⟨Z3, d, _, rx3.rel0.zh, rv, h4, fun u H' Z' r n hq => q u H' Z' r s3 (((hz.trans hz2).trans hz3).trans n.hz) (rx3.rel0.new n) hq⟩
theorem RpAll.cut {Z : Hp} {vs : List V} {ds : List D} (r : RpAll K Z vs ds) (lo hi : Option Int) : RpAll K Z (cutV vs lo hi) (slD.cutL ds lo hi) := by
  unfold cutV slD.cutL
  rw [r.length]
  exact (r.drop _).take _
theorem fsl : SlR X (rFs X.K slD) := by
  intro pins s σ H x v vl vu lo hi sl Q I rx hs pl pu ⟨Z, d, Qf, hz, hd, g, q⟩
  unfold slD at g
  split at g
  · obtain ⟨p, vs, rfl, h1, h2, h3⟩ := hd.list hz
    exact sl_list pins s σ H _ v vl vu lo hi sl Q I rx hs pl pu ⟨p, vs, rfl, .inl h1, fun n hn => q _ _ Z _ (.lst hz hn (Nat.le_trans (cutV_length vs lo hi) h2) (h3.cut lo hi)) g⟩
  · obtain ⟨p, vs, rfl, h1, h2, h3⟩ := hd.tuple hz
    refine sl_tupA pins s σ H _ v vl vu lo hi sl Q I rx hs pl pu ⟨p, vs, rfl, h1, fun hw => ?_, fun hw n hn => q _ _ _ _ (.tup hz hn (Nat.le_trans (cutV_length vs lo hi) h2) (h3.cut lo hi)) g⟩
    rename_i xs0
    have e : slD.cutL xs0 lo hi = xs0 := by
      unfold slD.cutL
      rw [← h3.length, hw.1, hw.2, h3.length, Nat.sub_zero, List.drop_zero, List.take_length]
    rw [e] at g
    exact q _ H Z _ (.d hz (fop_add.RpV.tupZ hd)) g
  · exact g.elim
theorem pf_sl {lo hi : Option Expr} {fl fh : FO} {p2 : Pos} (he : PF X L e fa) (hl : PFO X L lo fl) (hh : PFO X L hi fh) : PF X L (.Subscript e (.Slice lo hi none p2) pos) (fSl slD fa fl fh) := PE_imp (pe_slice fsl he hl hh) fun _ _ _ => fSl_ok
inductive RpVs (K : PySem.W.Frag) (Z H : Hp) : List V → List D → Prop
  | nil : RpVs K Z H [] []
  | cons {v : V} {vs : List V} {d : D} {ds : List D} : RpV K Z H v d → RpVs K Z H vs ds → RpVs K Z H (v :: vs) (d :: ds)
def rFN (K : PySem.W.Frag) (g : VN) : List V → Hp → VK → Prop := fun vs H Q => ∃ Z ds Qf, Same Z H ∧ RpVs K Z H vs ds ∧ g ds Qf ∧ ∀ u H' Z' r, NewR K Z H Z' H' u r → Qf r → Q u H'
theorem lookAll_ok {Z H : Hp} {s : S} : ∀ {rs : List R} {vs : List V} {k : List D → Prop}, vs.length = rs.length → (∀ (j : Nat) q d, rs[j]? = some q → viewR s q = some d → ∃ v, vs[j]? = some v ∧ RpV K Z H v d) → fBlt.lookAll s rs k → ∃ ds, RpVs K Z H vs ds ∧ k ds
  | [], [], k, hl, hv, h => ⟨[], .nil, h⟩
  | [], _ :: _, k, hl, hv, h => by cases hl
  | r :: rs, [], k, hl, hv, h => by cases hl
  | r :: rs, v :: vs, k, hl, hv, h => by
    obtain ⟨d, e, h2⟩ := look_ok h
    obtain ⟨v', ev, rv⟩ := hv 0 r d rfl e
    cases ev
    obtain ⟨ds, rr, h3⟩ := lookAll_ok (by simpa using hl) (fun j q d h1 h2 => hv (j + 1) q d h1 h2) h2
    exact ⟨d :: ds, .cons rv rr, h3⟩
theorem fBlt_ok {g : VN} {n : Nat} {σ : St} {H : Hp} {Q : VK} (h : liftE X L (fBlt g fr) σ H Q) : tCB (rFN X.K g) (liftA X L n fr) σ H Q := by
  obtain ⟨Z, Y, s, Xf, Qf, r, k, xo, h, q⟩ := h
  refine ⟨Z, Y, s, Xf, _, r, k, xo, h, fun vs H1 Z1 rs s1 hz rx hn h1 => ?_⟩
  obtain ⟨ds, rr, h2⟩ := lookAll_ok rx.l2 (fun j q d e1 e2 => rx.look e1 e2) h1
  exact ⟨Z1, ds, _, rx.rel0.zh, rr, h2, fun u H' Z' r n hq => q u H' Z' r s1 (hz.trans n.hz) (rx.rel0.new n) hq⟩
variable {x : Str} {id T : String}
theorem pf_blt {g : VN} (hc : CallR X (.builtin id) (rFN X.K g)) (hm : X.mg x = none) (hv : bootBuiltins x = some (.builtin id)) (ha : PFA X L (e :: es) fr) (hg : Gl X x := by rfl) (hn : x ≠ "__name__" := by decide) (hdb : (x == ("__debug__" : Str)) = false := by decide)
    (he : starEach (e :: es) X.env = (false, eval e X.env) :: starEach es X.env := by rfl) (hpl : (backTo pos (starEach es X.env)).any (·.1) = false := by rfl) : PF X L (.Call (.Name x p) (e :: es) [] pos) (fBlt g fr) := PE_imp (pe_callB hc hg hm hv ha hn hdb he hpl) fun _ _ _ => fBlt_ok
theorem pf_bty {g : VN} (hc : CallR X (.type T) (rFN X.K g)) (hm : X.mg x = none) (hv : bootBuiltins x = some (.type T)) (ha : PFA X L (e :: es) fr) (hg : Gl X x := by rfl) (hn : x ≠ "__name__" := by decide) (hdb : (x == ("__debug__" : Str)) = false := by decide)
    (he : starEach (e :: es) X.env = (false, eval e X.env) :: starEach es X.env := by rfl) (hpl : (backTo pos (starEach es X.env)).any (·.1) = false := by rfl) : PF X L (.Call (.Name x p) (e :: es) [] pos) (fBlt g fr) := PE_imp (pe_callTy hc hg hm hv ha hn hdb he hpl) fun _ _ _ => fBlt_ok
theorem RpVs.one {Z H : Hp} {vs : List V} {d : D} (r : RpVs K Z H vs [d]) : ∃ v, vs = [v] ∧ RpV K Z H v d := by
  cases r with
  | cons h r => cases r; exact ⟨_, rfl, h⟩
theorem fb_len : CallR X (.builtin "len") (rFN X.K bLen) := by
  intro pins s σ H vs us Q I rv ⟨Z, ds, Qf, hz, rr, g, q⟩
  unfold bLen at g
  split at g
  · obtain ⟨v, rfl, r1⟩ := rr.one
    obtain ⟨p, vs, rfl, h1, h2, h3⟩ := r1.list hz
    exact call_len pins s σ H _ us Q I rv ⟨_, vs.length, rfl, .inl ⟨vs, .inl h1, rfl⟩, by rw [h3.length]; exact q _ H Z _ (.d hz (.int _)) g⟩
  · obtain ⟨v, rfl, r1⟩ := rr.one
    obtain ⟨p, vs, rfl, h1, h2, h3⟩ := r1.tuple hz
    exact call_len pins s σ H _ us Q I rv ⟨_, vs.length, rfl, .inr ⟨vs, h1, rfl⟩, by rw [h3.length]; exact q _ H Z _ (.d hz (.int _)) g⟩
  · obtain ⟨v, rfl, r1⟩ := rr.one
    cases r1.str
    exact call_len pins s σ H _ us Q I rv ⟨_, _, rfl, ⟨g.1, rfl⟩, q _ H Z _ (.d hz (.int _)) g.2⟩
  · obtain ⟨v, rfl, r1⟩ := rr.one
    obtain ⟨p, ns, rfl, rfl, h1, h2⟩ := r1.lit hz
    exact call_len pins s σ H _ us Q I rv ⟨_, _, rfl, .inl ⟨_, h1, rfl⟩, by rw [List.length_map]; rw [List.length_map] at g; exact q _ H Z _ (.d hz (.int _)) g⟩
  · exact g.elim
theorem fb_int : CallR X (.type "int") (rFN X.K bInt) := by
  intro pins s σ H vs us Q I rv ⟨Z, ds, Qf, hz, rr, g, q⟩
  unfold bInt at g
  split at g
  · obtain ⟨v, rfl, r1⟩ := rr.one
    cases r1.int
    exact call_int1 pins s σ H _ us Q I rv (.inl ⟨_, rfl, q _ H Z _ (.d hz (.int _)) g⟩)
  · obtain ⟨v, rfl, r1⟩ := rr.one
    cases r1.bool
    exact call_int1 pins s σ H _ us Q I rv (.inr ⟨_, rfl, q _ H Z _ (.d hz (.int _)) g⟩)
  · exact g.elim
theorem fb_str : CallR X (.type "str") (rFN X.K bStr) := by
  intro pins s σ H vs us Q I rv ⟨Z, ds, Qf, hz, rr, g, q⟩
  unfold bStr at g
  split at g
  · obtain ⟨v, rfl, r1⟩ := rr.one
    cases r1.int
    exact call_str_int pins s σ H _ us Q I rv ⟨_, rfl, g.1, q _ H Z _ (.d hz (.str _)) g.2⟩
  · exact g.elim
theorem fb_tuple : CallR X (.type "tuple") (rFN X.K bTuple) := by
  intro pins s σ H vs us Q I rv ⟨Z, ds, Qf, hz, rr, g, q⟩
  unfold bTuple at g
  split at g
  · obtain ⟨v, rfl, r1⟩ := rr.one
    obtain ⟨p, vs, rfl, h1, h2, h3⟩ := r1.list hz
    exact call_tuple_of pins s σ H _ us Q I rv ⟨p, vs, rfl, .inl ⟨.inl h1, fun n hn => q _ _ _ _ (.tup hz hn h2 h3) g⟩⟩
  · obtain ⟨v, rfl, r1⟩ := rr.one
    obtain ⟨p, vs, rfl, h1, h2, h3⟩ := r1.tuple hz
    exact call_tuple_of pins s σ H _ us Q I rv ⟨p, vs, rfl, .inr ⟨h1, q _ H Z _ (.d hz (fop_add.RpV.tupZ r1)) g⟩⟩
  · exact g.elim
theorem fb_all (hc : X.calm = true) : CallR X (.builtin "all") (rFN X.K bAll) := by
  intro pins s σ H vs us Q I rv ⟨Z, ds, Qf, hz, rr, g, q⟩
  unfold bAll at g
  split at g
  · split at g
    · rename_i eb
      obtain ⟨v, rfl, r1⟩ := rr.one
      obtain ⟨p, vs, rfl, h1, h2, h3⟩ := r1.list hz
      rw [boolsOf_eq eb] at h3
      rw [h3.bools] at h1
      exact cr_all hc pins s σ H _ us Q I rv ⟨p, _, rfl, .inl h1, q _ H Z _ (.d hz (.bl _)) g⟩
    · exact g.elim
  · exact g.elim
theorem fb_any (hc : X.calm = true) : CallR X (.builtin "any") (rFN X.K bAny) := by
  intro pins s σ H vs us Q I rv ⟨Z, ds, Qf, hz, rr, g, q⟩
  unfold bAny at g
  split at g
  · split at g
    · rename_i eb
      obtain ⟨v, rfl, r1⟩ := rr.one
      obtain ⟨p, vs, rfl, h1, h2, h3⟩ := r1.list hz
      rw [boolsOf_eq eb] at h3
      rw [h3.bools] at h1
      exact cr_any hc pins s σ H _ us Q I rv ⟨p, _, rfl, .inl h1, q _ H Z _ (.d hz (.bl _)) g⟩
    · exact g.elim
  · exact g.elim
def tyName : D → String
  | .none => "NoneType"
  | .bool _ => "bool"
  | .int _ => "int"
  | .str _ => "str"
  | .list _ => "list"
  | .tuple _ => "tuple"
  | .dict _ => "dict"
theorem tyX_of {H : Hp} {v : V} {d : D} (r : Rp K H v d) (hl : isLit d = false) : TyX K H v (.type (tyName d)) := by
  cases r with
  | lit h z => cases hl
  | exc h => cases hl
  | obj h1 h2 a => cases hl
  | non => exact .base .non
  | bl b => exact .base (.bl b)
  | int i => exact .base (.int i)
  | str x => exact .base (.str x)
  | lst h z a =>
    rcases h with h | ⟨o, h⟩
    · exact .base (.lst h)
    · exact .base (.frz h)
  | tup h z a => exact .base (.tup h)
  | dcK h a =>
    rcases h with h | ⟨o, h⟩
    · exact .base (.dK h)
    · exact .fDict h
  | dcT h a => exact .base (.dT h)
/-- the classes that are asked for -/
inductive AskTy : String → Prop
  | int : AskTy "int" | bool : AskTy "bool" | tuple : AskTy "tuple" | list : AskTy "list" | str : AskTy "str" | dict : AskTy "dict"
def tyB (n T : String) : Bool := n == T || (n == "bool" && T == "int")
theorem kitTab : ∀ n ∈ ["NoneType", "bool", "int", "str", "list", "tuple", "dict"], ∀ T ∈ ["int", "bool", "tuple", "list", "str", "dict"], kitB n T = some (tyB n T) := by decide +kernel
theorem tyName_mem (d : D) : tyName d ∈ ["NoneType", "bool", "int", "str", "list", "tuple", "dict"] := by cases d <;> simp [tyName]
theorem isTy_eq {T : String} (h : AskTy T) (d : D) : isTy T d = tyB (tyName d) T := by cases h <;> cases d <;> rfl
theorem kit_is {T : String} (h : AskTy T) (d : D) : PySem.W.kitOne K (.type (tyName d)) (.type T) = some (isTy T d) := by
  rw [isTy_eq h]
  exact kit_ty (kitTab _ (tyName_mem d) T (by cases h <;> simp))
theorem pf_isinst {T : String} {tx : Str} {p2 : Pos} (hT : AskTy T) (ha : PF X L a fa) (hm : X.mg "isinstance" = none) (hmT : X.mg tx = none) (hbT : bootBuiltins tx = some (.type T)) (hg : Gl X "isinstance" := by rfl) (hgT : Gl X tx := by rfl)
    (hnT : tx ≠ "__name__" := by decide) (hdT : (tx == ("__debug__" : Str)) = false := by decide) (he : starEach [a, .Name tx p2] X.env = (false, eval a X.env) :: starEach [.Name tx p2] X.env := by rfl) (he2 : starEach [.Name tx p2] X.env = (false, eval (.Name tx p2) X.env) :: starEach [] X.env := by rfl)
    (hpl : (backTo pos (starEach [.Name tx p2] X.env)).any (·.1) = false := by rfl) : PF X L (.Call (.Name "isinstance" p) [a, .Name tx p2] [] pos) (fUn (bIs T) fa) :=
  PE_imp (pe_callB call_isi hg hm (by decide +kernel) (pa_cons ha (pa_cons (pe_bltn (v := .ty T) hgT hmT hbT rfl hnT hdT) pa_nil he2) he) (by decide) (by decide) he hpl) fun σ H Q ⟨Z, Y, s, Xf, Qf, r, k, xo, h, q⟩ => by
  refine ⟨Z, Y, s, Xf, _, r, k, xo, h, fun v H1 Z1 r1 s1 hz rx h1 => ?_⟩
  obtain ⟨d, e1, h3⟩ := look_ok h1
  obtain ⟨v', ev, rv⟩ := rx.look (k := 0) rfl e1
  cases ev
  exact ⟨v, .ty T, _, .type T, _, rfl, .ty T, tyX_of (rv.rp rx.rel0.zh) h3.1, kit_is hT d, q _ H1 Z1 _ s1 hz (.d rx.rel0 (.bl _)) h3.2⟩
def rLm (K : PySem.W.Frag) (g : LM) : V → List V → Hp → VK → Prop := fun x us H Q => ∃ Z p vs xs ds Qf, x = .ref p ∧ H p = some (.lst vs) ∧ vs.length ≤ sizeLine ∧ RpAll K Z vs xs ∧ Same Z H ∧ RpAll K Z us ds ∧ g xs ds Qf ∧
  ∀ u d vs' xs', Qf d xs' → Rp K Z u d → vs'.length ≤ sizeLine → RpAll K Z vs' xs' → Q u (upd H p (.lst vs'))
theorem onL_ok {i : Nat} {s : S} {k : List D → Prop} (h : onL i s k) : ∃ xs, s.getD i .no = .l xs ∧ k xs := by
  unfold onL at h
  generalize s.getD i .no = w at h
  cases w with
  | l xs => exact ⟨xs, rfl, h⟩
  | _ => exact h.elim
theorem Rel.slotL {Z Y H : Hp} {σ : St} {s : S} (r : Rel K Z Y H σ s) {i : Nat} {xs : List D} (e : s.getD i .no = .l xs) : ∃ p vs, σ.getD i none = some (.ref p) ∧ H p = some (.lst vs) ∧ vs.length ≤ sizeLine ∧ RpAll K Z vs xs := by
  obtain ⟨F, q⟩ := r.slot i
  rw [e] at q
  obtain ⟨p, vs, h1, _, h3, h4, h5⟩ := q
  exact ⟨p, vs, h1, h3, h4, h5⟩
theorem fLm_ok {i n : Nat} {g : LM} {σ : St} {H : Hp} {Q : VK} (h : liftE X L (fLm i g fr) σ H Q) : tBM X.K "list" (rLm X.K g) (tVar i) (liftA X L n fr) σ H Q := by
  obtain ⟨Z, Y, s, Xf, Qf, r, k, xo, h, q⟩ := h
  obtain ⟨xs0, e0, h⟩ := onL_ok h
  obtain ⟨p, vs, hv, hp, _, _⟩ := r.slotL e0
  refine ⟨.ref p, getD_some hv, .inl ⟨rfl, vs, .inl (.inl hp)⟩, Z, Y, s, Xf, _, r, k, xo, h, fun us H1 Z1 rs s1 hz rx hn h1 => ?_⟩
  obtain ⟨Z2, ds, s2, hz2, rx2, h2⟩ := frzAll_ok (us := []) (ds := []) rx rfl h1
  obtain ⟨xs, e2, h3⟩ := onL_ok h2
  have r2 := rx2.rel0
  obtain ⟨p', vs', hv', hp', hl', ra'⟩ := r2.slotL e2
  rw [hv] at hv'
  cases hv'
  refine ⟨Z2, p, vs', xs, ds, _, rfl, hp', hl', ra', r2.zh, rx2.rps, h3, fun u d vs2 xs2 hq ru hl2 ra2 => ?_⟩
  have w := r2.write (i := i) (xs' := xs2) (vs' := vs2) e2 hv hl2 ra2
  exact q u _ Z2 _ _ (hz.trans hz2) (.d w ru) hq
variable {nm : Str} {apos cpos : Pos} {y : Str} {px : Pos}
theorem pf_lm (i : Nat) {g : LM} (slot : Slot "list" nm id) (hty : typeOf (.builtin id) = pure (.type "method_descriptor")) (hm : MtR X id (rLm X.K g)) (ha : PFA X L (e :: es) fr)
    (ho : PE X (.Name y px) (tVar i)) (hbase : attributeBase (.Name y px) nm X.env (eval (.Name y px) X.env) = eval (.Name y px) X.env := by rfl)
    (hfew : ((backTo cpos (starEach (e :: es) X.env)).all (fun x => !x.1) && (backToKw cpos (keywordEach [] X.env)).all (fun x => x.1.isSome)
      && decide ((e :: es).length + ([] : List Keyword).length + (if ([] : List Keyword).isEmpty then 0 else 1) < 30)) = true := by rfl)
    (hline : (apos.endLine == cpos.line) = true := by rfl) (hs : starEach (e :: es) X.env = (false, eval e X.env) :: starEach es X.env := by rfl) (hplain : (backTo cpos (starEach es X.env)).any (·.1) = false := by rfl) :
    PF X L (.Call (.Attribute (.Name y px) nm apos) (e :: es) [] cpos) (fLm i g fr) := PE_imp (pe_bm PySem.F.plainAttrs_list slot hty hm ho ha hbase hfew hline hs hplain) fun _ _ _ => fLm_ok
theorem fm_append : MtR X "list.append" (rLm X.K mAppend) := by
  intro pins s σ H x us v vs Q I rx rv ⟨Z, p, ws, xs, ds, Qf, ex, hp, hl, ra, hz, rd, g, q⟩
  unfold mAppend at g
  split at g
  · cases rd with
    | cons r1 r2 =>
      cases r2
      have l1 := ra.length
      exact mt_append pins s σ H x _ v vs Q I rx rv ⟨p, ws, _, ex, rfl, hp, by omega, q _ _ _ _ g.2 .non (by rw [List.length_append]; show ws.length + 1 ≤ _; omega) (ra.append (.cons r1 .nil))⟩
  · exact g.elim
theorem pfs_setIx (i : Nat) {po : Pos} {j : Expr} {fj : FE} (he : PF X L e fa) (ho : PE X (.Name y px) (tVar i)) (hj : PF X L j fj)
    (ha : ∀ v, assign (.Subscript (.Name y px) j po) X.env v = (do
      let ov ← holding [v] (eval (.Name y px) X.env)
      let iv ← holding [v, ov] (eval j X.env)
      standAt po
      holding [v, ov, iv] (setItem ov iv v)
      release [v, ov, iv] []) := by intro _; rfl) (hs : swapsWithSole [.Subscript (.Name y px) j po] e pos.line X.env = pure false := by rfl) (hw : swappedStores [.Subscript (.Name y px) j po] e X.env = pure none := by rfl)
    (h1 : (assignEach [.Subscript (.Name y px) j po] X.env).map (·.2) = [assign (.Subscript (.Name y px) j po) X.env] := by rfl) : PFS X L (.Assign [.Subscript (.Name y px) j po] e pos) (fSetIx i fj fa) :=
  PS_imp (ps_asg he (pg_sub ho hj set_list ha) hs hw h1) fun D σ H ⟨Z, Y, s, Ef, r, k, h, eo⟩ => by
  refine ⟨Z, Y, s, Ef.xx, _, r, k, eo.xx, h, fun v H1 Z1 r1 s1 hz rx h1 => ?_⟩
  obtain ⟨xs0, e0, h1⟩ := onL_ok h1
  obtain ⟨q, vs0, hv, _, _, _⟩ := rx.rel0.slotL e0
  obtain ⟨Y', hy, rl, bk, fw⟩ := rx.frame
  refine ⟨.ref q, getD_some hv, Z1, Y', s1, Ef.xx, _, rl, k, (eo.xx.z hz).mono (Same.refl _) bk, h1, fun w H2 Z2 rj s2 hz2 rx2 h2 => ?_⟩
  split at h2
  · rename_i kk
    have ew := rx2.vi
    subst ew
    have rx3 := fw Z2 H2 s2 [] [] hz2 (.nil rx2.rel0)
    obtain ⟨Z3, d, s3, hz3, rx4, h3⟩ := frz_ok (us := []) (ds := []) (vs := []) (rs := []) rx3 rfl h2
    obtain ⟨xs, e2, h0, hlt, h4⟩ := onL_ok h3
    obtain ⟨q', vs', hv', hp', hl', ra'⟩ := rx4.rel0.slotL e2
    rw [hv] at hv'
    cases hv'
    have w := rx4.rel0.write (i := i) (xs' := xs.set kk.toNat d) (vs' := vs'.set kk.toNat v) e2 hv (by rw [List.length_set]; exact hl') (ra'.set rx4.vd _)
    refine ⟨q, vs', kk, kk.toNat, rfl, rfl, hp', ?_, eo.nx σ _ Z3 _ ((hz.trans hz2).trans hz3) k w h4⟩
    unfold ixN
    rw [if_pos h0, if_pos (by rw [ra'.length]; omega)]
  · exact h2.elim
end
end Hs
namespace Hs
open PySem PySem.Spec PyProof.Rows L2
/-- what is known of a text: the head's facts, the base below -/
structure TxOk (fa : List He.Fa) (fn : List He.DefD) (K : PySem.W.Frag) (mg : Str → Option Value) (base : Heap) : Prop where
  c : He.SaysD fa fn K
  X : K.In base
  G : base.Ns mainGlobals mg
section
variable {fa : List He.Fa} {fn : List He.DefD} {K : PySem.W.Frag} {mg : Str → Option Value} {base : Heap}
theorem TxOk.free (T : TxOk fa fn K mg base) (i : Nat) {x : Str} (h : fa[i]? = some (.free x) := by rfl) : mg x = none := He.free_ok T.X T.G (T.c.fact i h)
theorem TxOk.glo (T : TxOk fa fn K mg base) (i : Nat) {x : Str} (h : fa[i]? = some (.glo x) := by rfl) : mg x = some (.ref (He.ga K x)) := He.glo_ok T.X T.G (T.c.fact i h)
theorem TxOk.int (T : TxOk fa fn K mg base) (i : Nat) {x : Str} {z : Int} (h : fa[i]? = some (.int x z) := by rfl) : ∃ t, mg x = some (.int z t) := He.int_ok T.X T.G (T.c.fact i h)
theorem TxOk.str (T : TxOk fa fn K mg base) (i : Nat) {x z : Str} (h : fa[i]? = some (.str x z) := by rfl) : ∃ t, mg x = some (.str z t) := He.str_ok T.X T.G (T.c.fact i h)
theorem TxOk.exc (T : TxOk fa fn K mg base) (i : Nat) {x : Str} (h : fa[i]? = some (.exc x) := by rfl) : PySem.W.excIn K (He.ga K x) He.veBase "ValueError.__new__" = true ∧ PySem.W.keepIn K (.ref (He.ga K x)) = true ∧ PySem.W.subIn K (.ref (He.ga K x)) (.type "BaseException") = some true ∧ PySem.W.typeIn K (.ref (He.ga K x)) = some (.type "type") := He.exc_ok (T.c.fact i h)
end
/-- a def of the text -/
def Df (P : Program) (w : World) (K : PySem.W.Frag) (mg : Str → Option Value) (base : Heap) (x : Str) (k : Nat) (ps : List Str) (ms : List Bool) (sem : FSem) : Prop :=
  ∃ f fd, FnOk P w K mg base (L2.CX P w) k f fd ps (liftSp K mg (ioOf ms) ps.length sem) ∧ Binds K fd ps [] ∧ mg x = some (.ref f) ∧ PySem.W.keepIn K (.ref f) = true
theorem funOf {K : PySem.W.Frag} {x q : Str} {st : Stmt} {f : Addr} {fd : FuncData} {kws : List (Str × V)} (F : FunD K x q (defArgs st) (defBody st) (defScope st) [] kws f fd) : Fun K x q st f fd := by
  obtain ⟨oc, od, dV, kV, doc, pm, an, cdv, ct, osl, e, l, c, hd, hk⟩ := F.ex
  rcases hd with ⟨h0, h1⟩ | ⟨h0, _⟩
  · subst h1
    exact ⟨⟨oc, od, kV, doc, pm, an, cdv, ct, osl, e, l, c⟩, F.kp⟩
  · exact (h0 rfl).elim
section
variable {P : Program} {w : World} {K : PySem.W.Frag} {mg : Str → Option Value} {base : Heap} {fa : List He.Fa} {fn : List He.DefD}
theorem dfOk (T : TxOk fa fn K mg base) {x : Str} {st : Stmt} {N ps : List Str} {ms : List Bool} {bd : FS} {k : Nat} (i j : Nat) (sco : FnScope N ps (defScope st)) (hnp : ps.length ≤ N.length)
    (hbi : ∀ (kV doc pm : Value) (an : Option Addr) (cdv ct : Value) (us : List Value), us.length = ps.length → bindArgs (PySem.W.fnOf x x (defArgs st) (defBody st) (defScope st) .none kV doc pm an cdv ct) ⟨us, []⟩ = pure (ps.zip us))
    (hb : ∀ (f : Addr) (cdv : Value) (A : Around) (outer : List Env) (s : Shared) (H : Hp) (vs : List V) (E : XK), Room k (A.deeper (envOfC x (defScope st) s.heap.objs.size f cdv)) →
      PFSs (cxOf (L2.CX P w) P w K mg base N x (defScope st) f cdv A outer s H E) ⟨fun cls d _ H => E cls d H, ioOf ms, L2.start N vs⟩ (defBody st) bd)
    (h : fn[i]? = some (dOf x st) := by rfl) (hg : fa[j]? = some (.glo x) := by rfl) : Df P w K mg base x (k + 1) ps ms (semOf ps.length N.length bd) := by
  obtain ⟨fd, F⟩ := T.c.def_ i h
  exact ⟨_, fd, okF (funOf F) sco hnp fun cdv A outer s H vs E hr => hb _ cdv A outer s H vs E hr, F.bindsN hbi, T.glo j hg, F.kp⟩
theorem Df.up {x : Str} {j k : Nat} {ps : List Str} {ms : List Bool} {sem : FSem} (D : Df P w K mg base x j ps ms sem) (h : j ≤ k) : Df P w K mg base x k ps ms sem := by
  obtain ⟨f, fd, F, b, m, kp⟩ := D
  exact ⟨f, fd, F.mono h, b, m, kp⟩
variable {X : Cx} {L : Lv} {e a b : Expr} {es : List Expr} {fr : FA} {pos p : Pos} {x : Str} {ps : List Str} {ms : List Bool} {k : Nat}
theorem pf_callD {sem : FSem} (D : Df X.prog X.w X.K X.mg X.base x k ps ms sem) (hr : Room k X.A) (hx : ∀ σ, PassesAt (L2.CX X.prog X.w) X σ (fun cls d H => L.E cls d σ H)) (ha : PFA X L (e :: es) fr) (hl : ps.length = es.length + 1 := by rfl) (hg : Gl X x := by rfl)
    (hn : ms.length = es.length + 1 := by rfl) (hdb : (x == ("__debug__" : Str)) = false := by decide) (he : starEach (e :: es) X.env = (false, eval e X.env) :: starEach es X.env := by rfl) (hpl : (backTo pos (starEach es X.env)).any (·.1) = false := by rfl) :
    PF X L (.Call (.Name x p) (e :: es) [] pos) (fCall sem ms fr) := by
  obtain ⟨f, fd, F, bi, m, kp⟩ := D
  rw [hl] at F
  exact pf_call F hr m kp bi hx ha hg hn hdb he hpl
theorem _root_.L2.Room.u64 {A : Around} (r : Room k A) : A.units + 64 < cLine := by have := r.un; omega
theorem _root_.L2.Room.u65 {A : Around} (r : Room k A) : A.units + 65 < cLine := by have := r.un; omega
theorem pfs_raise {C : Addr} {m : Str} {j : Nat} {p2 pos' : Pos} (hc : X.calm = true) (tk : Takes X L.E) (gC : X.mg x = some (.ref C))
    (q : PySem.W.excIn X.K C He.veBase "ValueError.__new__" = true ∧ PySem.W.keepIn X.K (.ref C) = true ∧ PySem.W.subIn X.K (.ref C) (.type "BaseException") = some true ∧ PySem.W.typeIn X.K (.ref C) = some (.type "type")) (hg : Gl X x := by rfl) (hdb : (x == ("__debug__" : Str)) = false := by decide) :
    PFS X L (.Raise (some (.Call (.Name x p) [.Constant (.str m) j p2] [] pos)) none pos') (fRaise x) :=
  PS_imp (ps_raise hc tk (pmk_own PySem.F.excBase_ValueError q.1 gC q.2.1 (raises_own q.2.2.1 q.2.2.2) hg hdb)) fun D σ H ⟨Z, Y, s, Ef, r, kk, h, eo⟩ => eo.xx x C Z H σ s (Same.refl _) kk r h gC
theorem pf_globI {i : Int} (h : ∃ t, X.mg x = some (.int i t)) (hg : Gl X x := by rfl) (hd : (x == ("__debug__" : Str)) = false := by decide) : PF X L (.Name x pos) (fC (.int i)) := by
  obtain ⟨t, e⟩ := h
  exact pf_C (pe_glob (v := .int i) hg e ⟨t, rfl⟩ hd) fun _ => .int i
theorem pf_globS {i : Str} (h : ∃ t, X.mg x = some (.str i t)) (hg : Gl X x := by rfl) (hd : (x == ("__debug__" : Str)) = false := by decide) : PF X L (.Name x pos) (fC (.str i)) := by
  obtain ⟨t, e⟩ := h
  exact pf_C (pe_glob (v := .str i) hg e ⟨t, rfl⟩ hd) fun _ => .str i
/-- a power of constants -/
theorem pf_powC {i j : Int} (r : Int) {k1 k2 : Nat} {p1 p2 : Pos} (h1 : 0 ≤ j := by decide) (h2 : j ≤ 1000000 := by decide) (h3 : i.natAbs < 2 ^ 64 := by decide) (e : i ^ j.toNat = r := by decide) : PF X L (.BinOp (.Constant (.int i) k1 p1) .Pow (.Constant (.int j) k2 p2) pos) (fC (.int r)) :=
  PE_imp (pf_op fop_pow pf_int pf_int) fun σ H Q ⟨Z, Y, s, Xf, Qf, rl, kk, xo, h, q⟩ => ⟨Z, Y, s, Xf, Qf, rl, kk, xo, ⟨h1, h2, h3, by rw [e]; exact h⟩, q⟩
theorem bb_len : bootBuiltins "len" = some (.builtin "len") := by decide +kernel
theorem bb_all : bootBuiltins "all" = some (.builtin "all") := by decide +kernel
theorem bb_any : bootBuiltins "any" = some (.builtin "any") := by decide +kernel
theorem bb_int : bootBuiltins "int" = some (.type "int") := by decide +kernel
theorem bb_str : bootBuiltins "str" = some (.type "str") := by decide +kernel
theorem bb_tuple : bootBuiltins "tuple" = some (.type "tuple") := by decide +kernel
theorem bb_bool : bootBuiltins "bool" = some (.type "bool") := by decide +kernel
theorem lawSp {sem : FSem} {H : Hp} {a : Addr} {ns : List Int} {ms : List Bool} (hS : SqL K H a (ns.map V.int)) (hz : ns.length ≤ sizeLine) (h : sem [.d (litD ns)] (fun _ _ => False) (fun r _ => r = .d (.bool true))) :
    liftSp K mg (ioOf ms) 1 sem [.ref a] H (fun v _ => v = .bl true) fun _ _ _ => False := by
  refine ⟨H, fun _ => none, [.d (litD ns)], _, _, rfl, ⟨Same.refl _, fun a q e => (nomatch e), fun _ _ => rfl, fun _ _ e => (nomatch e), rfl, ⟨fun _ => [], ⟨fun i => ?_, fun _ => .nil, fun i j a ha => (nomatch ha), fun i a ha => (nomatch ha)⟩⟩⟩, h, ?_, ?_⟩
  · cases i with
    | zero => exact ⟨rfl, .ref a, rfl, .lit hS hz⟩
    | succ i => exact rfl
  · intro u H' Z' σ' fin r hz kk hl rx nt e
    subst e
    have q := rx.vd
    cases q
    rfl
  · intro n C H' Z' σ' fin _ _ _ _ h _
    exact h.elim
theorem walk_ofBE {l : PySem.W.OpenLaw} {n k : Nat} {q : Program} {loose : List Str} {XP : (Str → Option Value) → Heap → Prop} {YP : World → Heap → Prop} {d : DefRec} {ms : List Bool} {sem : FSem}
    (hn : l.most = some n) (hn2 : n ≤ sizeLine) (hdf : d.params.defaults = []) (hr : Room k callerA)
    (F : ∀ (w : World) (mg : Str → Option Value) (f : Addr) (h : Heap), YP w h → h.Ns mainGlobals mg → mg d.name = some (.ref f) →
      ∃ (K : PySem.W.Frag) (fd : FuncData), K.In h ∧ (∀ (s : Shared) (u : Value), BindsTo s fd ⟨[u], []⟩ [("script", u)]) ∧
        ∀ base : Heap, K.In base → base.Ns mainGlobals mg → FnOk l.prog w K mg base (L2.CX l.prog w) k f fd ["script"] (liftSp K mg (ioOf ms) 1 sem))
    (law : ∀ ns : List Int, ns.length ≤ n → (∀ z ∈ ns, Builtin.Int.intBits z ≤ 1048576) → sem [.d (litD ns)] (fun _ _ => False) (fun r _ => r = .d (.bool true))) :
    PySem.W.WalkO q loose XP YP l.row.toRowW d [] (fun f vs => PySem.call f vs) := by
  refine Att.attach_callB hn hdf fun w s₀ s₁ mg mb f o pm cd doc a vs ns G Y ho hd hcd hmg hobj hints hlen hbits hg => ?_
  obtain ⟨K, fd, KX, hb, hF⟩ := F w mg f _ Y G.T.g hmg
  exact law_call KX G.T.g G.T.b G.T.builtins G.T.nolimit hg hobj hints (Nat.le_trans hlen hn2) hr hF hb (fun H hO hS => lawSp hS (Nat.le_trans hlen hn2) (law ns hlen hbits)) fun H e s' ⟨_, _, _, _, _, _, _, _, _, _, _, _, z⟩ => z
end
end Hs
namespace Hs
open PySem PySem.Spec PyProof.Rows L2
def iEnumL (a : FA) : FI := fun X s Q => a X s fun rs s1 => frzAll rs s1 fun ds s2 => match ds with
  | [.list xs] => Q (enumD xs) s2
  | [.tuple xs] => Q (enumD xs) s2
  | _ => False
def iZipS (a : FA) : FI := fun X s Q => a X s fun rs s1 => frzAll rs s1 fun ds s4 => match ds with
  | [.list xs, .list ys] => Q (zipD xs ys) s4
  | [.tuple xs, .tuple ys] => Q (zipD xs ys) s4
  | _ => False
def fRg1 (mk : List D → R) (a : FE) : FE := fun X s Q => a X s fun r s1 => match r with
  | .d (.int j) => RgOk 0 j ∧ Q (mk (rangeD 0 j.toNat)) s1
  | _ => False
def fRg2 (mk : List D → R) (a b : FE) : FE := fun X s Q => a X s fun r1 s1 => b X s1 fun r2 s2 => match r1, r2 with
  | .d (.int i), .d (.int j) => RgOk i j ∧ Q (mk (rangeD i (j - i).toNat)) s2
  | _, _ => False
section
variable {X : Cx} {L : Lv} {e a b c : Expr} {es : List Expr} {fa fb fc : FE} {fr : FA} {pos p : Pos} {K : PySem.W.Frag} {Z H : Hp}
theorem pairOf_eq {d : D} {p : Int × Int} (h : pairOf d = some p) : d = pairD p := by
  unfold pairOf at h
  split at h
  · cases h; rfl
  · cases h
theorem pairsOf_eq : ∀ {xs : List D} {ps : List (Int × Int)}, pairsOf xs = some ps → xs = ps.map pairD
  | [], ps, h => by cases h; rfl
  | x :: xs, ps, h => by
    have h : (match pairOf x, pairsOf xs with | some p, some ps => some (p :: ps) | _, _ => none) = some ps := h
    cases e : pairOf x with
    | none => rw [e] at h; cases h
    | some p =>
      cases e2 : pairsOf xs with
      | none => rw [e, e2] at h; cases h
      | some qs =>
        rw [e, e2] at h
        cases h
        rw [pairOf_eq e, pairsOf_eq e2]; rfl
end
end Hs
namespace Hs
open PySem PySem.Spec PyProof.Rows L2
section
variable {prog : Program} {w : World} {A : Around} {E : Value → Shared → Prop} {s : Shared}
def IsTupI (h : Heap) (v : Value) (ns : List Int) : Prop := ∃ a o us n, v = .ref a ∧ h.get? a = some o ∧ o.cls = .type "tuple" ∧ o.data = .seq (List.toArray us) n ∧ IntsAre us ns
theorem IsTupI.keeps {h h' : Heap} {v : Value} {ns : List Int} (p : IsTupI h v ns) (k : ∀ b o, h.get? b = some o → o.cls = .type "tuple" → h'.get? b = some o) : IsTupI h' v ns := by
  obtain ⟨a, o, us, n, e, ho, hc, hd, hi⟩ := p
  exact ⟨a, o, us, n, e, k _ _ ho hc, hc, hd, hi⟩
end
end Hs
namespace Hs
open PySem PySem.Spec PyProof.Rows L2
end Hs
namespace Hs
open PySem PySem.Spec PyProof.Rows L2
end Hs
namespace L2
open PySem PySem.Spec PyProof.Rows
section
variable {X : Cx} {pins : List (Addr × Obj)} {σ : St} {H : Hp} {s : Shared}
/-- an object that is there is looked at from now on -/
theorem Inv.track {a : Addr} {φ : Heap → Prop} (I : Inv X pins σ H s) (na : H a = none) (h0 : ∀ o, X.s_0.heap.get? a = some o → a ∈ X.ex) (hp : ∀ p ∈ X.pn ++ pins, p.1 ≠ a) (hL : a ≠ X.env.locals) (hC : ∀ x c, X.env.cells.lookup x = some c → c ≠ a)
    (new : ObjOk X.prog X.w (upd H a (.ext φ)) s.heap a (.ext φ)) : Inv X pins σ (upd H a (.ext φ)) s where
  ok := I.ok
  os := I.os
  bare := I.bare
  base := ⟨I.base.keep, I.base.slot, fun b o q n hx => by
      rw [upd_ne (fun z => hx (by rw [z] at q ⊢; exact h0 o q))]
      exact I.base.free b o q n hx, I.base.there, fun b xs q => by
      have q2 := I.base.tups b xs q
      rw [upd_ne (ne_of_none q2 na)]; exact q2, fun b o u q => by
      have q2 := I.base.frzs b o u q
      rw [upd_ne (ne_of_none q2 na)]; exact q2, fun b ps q => by
      obtain ⟨more, q2⟩ := I.base.tbls b ps q
      exact ⟨more, by rw [upd_ne (ne_of_none q2 na)]; exact q2⟩⟩
  loc := I.loc
  cell := I.cell
  free := by rw [upd_ne (Ne.symm hL)]; exact I.free
  freeC := fun x c e => by rw [upd_ne (hC x c e)]; exact I.freeC x c e
  pin := fun p q => by
    obtain ⟨h1, h2, h3⟩ := I.pin p q
    exact ⟨h1, by rw [upd_ne (hp p q)]; exact h2, h3⟩
  hok := I.hok.laidN (fun _ _ e => e) na new
  len := I.len
theorem Inv.suite0 (I : Inv X pins σ H s) (a : Addr) : Inv (X.suite a (X.pn ++ pins)) [] σ H s :=
  ⟨I.ok.suite _ _, I.os, I.bare, I.base, I.loc, I.cell, I.free, I.freeC, fun p hp => I.pin p (by rw [List.append_nil] at hp; exact hp), I.hok, I.len⟩
theorem Inv.unsuite0 {a : Addr} {pn' : List (Addr × Obj)} (I : Inv (X.suite a (X.pn ++ pins)) pn' σ H s) (ok : X.Ok) : Inv X pins σ H s :=
  ⟨ok, I.os, I.bare, I.base, I.loc, I.cell, I.free, I.freeC, fun p hp => I.pin p (List.mem_append_left _ hp), I.hok, I.len⟩
end
/-- what the body may raise: errors of classes under c, made with a text; the suite has them as things to look at -/
def wAsE (K : PySem.W.Frag) (c : Value) (i : Nat) (ts : TS) (D : Ends) : WX := fun cls d σ H =>
  d = none ∧ ∃ C : Addr, cls = .ref C ∧ PySem.W.exmOne K cls c = some true ∧ ∀ a, H a = none → ts { nx := fun σ' H' => D.nx (σ'.set i none) H', rt := D.rt, bk := fun σ' H' => D.bk (σ'.set i none) H', ct := fun σ' H' => D.ct (σ'.set i none) H' } (σ.set i (some (.ref a))) (upd H a (Hs.ExV C a))
section
variable {X : Cx} {x n : Str} {c : Value} {i : Nat} {body suite : List Stmt} {b₀ : Stmt} {np pos pos' : Pos} {tb : WX → TS} {ts : TS}
theorem ps_try_exc (hs : X.stack = X.env :: X.outer) (hf : X.env.frame = some X.env.locals) (hN : X.N.Nodup) (hi : X.N[i]? = some n) (hln : X.env.kindOf n = some .local) (hc : Names X x c)
    (hb : ∀ (W : WX) (pn : List (Addr × Obj)) (xe : Value → Shared → Prop), Takes (X.tr pn xe) W → PSs (X.tr pn xe) body (tb W))
    (hsu : ∀ (a : Addr) (pn : List (Addr × Obj)), PSs (X.suite a pn) (b₀ :: suite) ts) :
    PS X (.Try body [.ExceptHandler (some (.Name x np)) (some n) (b₀ :: suite) pos'] [] [] pos) (fun D σ H => tb (wAsE X.K c i ts D) D σ H) := by
  refine ⟨fun pins s σ H D I h => ?_⟩
  have ok := I.ok
  have hfr : X.A.frames = some (X.env :: X.outer) := by rw [ok.frames, hs]
  have hloc : Loc X.env.scope n := .inl hln
  refine wpAny_Try_except ?_
  refine wpAny_mono ((hb (wAsE X.K c i ts D) (X.pn ++ pins) (fun e s₁ => wpAny (model X.prog X.w) X.A (noteFrame e X.env) (fun _ s₂ => wpAny (model X.prog X.w) X.A (setFlight e none) (fun _ s₃ =>
    wpAny (model X.prog X.w) X.A (handleBy e X.env [.ExceptHandler (some (.Name x np)) (some n) (b₀ :: suite) pos']) (SP X pins D) X.xe s₃) X.xe s₂) X.xe s₁) (fun u s' xx => ?_)).run [] s σ H D (I.toTry _) h) (fun f s1 hsp => ?_) (fun e s1 he => he)
  · obtain ⟨a, B, sI, pins', σ', H', cls, d, rfl, J', nb, up, sky, na, os, ag, rfl, C, rfl, hb1, hyes⟩ := xx
    have J : Inv X pins σ' H' sI := J'.ofTry ok
    have sky' : Sky B (X.env :: X.outer) a (Zc (.ref C) none) X.env.locals s'.heap := by rw [← hs]; exact sky
    show wpAny (model X.prog X.w) X.A (noteFrame (.ref a) X.env) _ _ _
    refine Sky.land Zc.steady hfr hf sky' fun h3 fl3 up3 => ?_
    have J3 : Inv X pins σ' H' { s' with heap := h3 } := J.landed nb fl3.1 (up.trans up3) os ag
    obtain ⟨oe3, vs3, he3, hz3, hd3⟩ := fl3.there
    have nfr : a ∉ frs (X.env :: X.outer) := fun hm => by
      obtain ⟨_, o', e', hnf⟩ := fl3.2.2.1.mem hm
      rw [he3] at e'; cases e'
      exact hnf _ hd3
    have nL : a ≠ X.env.locals := fun z => nfr (List.mem_filterMap.mpr ⟨X.env, List.mem_cons_self, by rw [hf, z]⟩)
    have nF : a ∉ X.fs := fun hm => by
      obtain ⟨e, he, q⟩ := List.mem_filterMap.mp hm
      exact nfr (List.mem_filterMap.mpr ⟨e, List.mem_cons_of_mem _ he, q⟩)
    have new : ∀ o, sI.heap.get? a ≠ some o := fun o e => by
      have q := nb a o e (by rw [hs]; exact nfr)
      rw [fl3.2.1] at q; cases q
    have S3 := J3.suite he3 hd3 na nL nF
    refine wpAny_handleBy_cons (codeAny_handlers_test ?_) (by intro q; cases q)
    have LT : PySem.W.Looks (model X.prog X.w) h3 (typeOf (.ref a)) (.ref C) := fun A Q E s k q => wpAny_typeOf_ref (k _ _ he3) (by rw [hz3.1]; exact q)
    have LM := PySem.W.exm_one (M := model X.prog X.w) (J3.kIn) LT hb1
    have test : ∀ {Q : Value → Shared → Prop} {E : Value → Shared → Prop}, Q c { s' with heap := h3 } → wpAny (model X.prog X.w) (X.A.mark (some (.ref a))) (eval (.Name x np) X.env) Q E { s' with heap := h3 } := fun {Q E} q => by
      obtain ⟨hg, hdbg, hm | ⟨hm, hv, hnn⟩⟩ := hc
      · exact ld_glob (X := X.suite a ((a, oe3) :: (X.pn ++ pins))) S3 hg hm q hdbg
      · exact ld_blt (X := X.suite a ((a, oe3) :: (X.pn ++ pins))) S3 hg hm hv q hnn hdbg
    refine test (LM.here ?_)
    refine codeAny_handlers_suite_as ?_
    refine HandSPX.lands_againZ fl3 fun h4 fl4 up4 => ?_
    have J4 : Inv X pins σ' H' { s' with heap := h4 } := J.landed nb fl4.1 ((up.trans up3).trans up4) os ag
    obtain ⟨oe4, vs4, he4, hz4, hd4⟩ := fl4.there
    have T4 : Inv X pins σ' (upd H' a (Hs.ExV C a)) { s' with heap := h4 } := J4.track na
      (fun o e => by
        by_cases hx : a ∈ X.ex
        · exact hx
        · obtain ⟨o', e'⟩ := J.base.there a o e hx
          exact absurd e' (new o'))
      (fun p hp z => new p.2 (by rw [← z]; exact (J.pin p hp).1)) nL
      (fun y c' e z => by
        obtain ⟨v, o, eo, hd⟩ := J.cell y c' e
        rw [z] at eo
        exact new _ eo)
      ⟨⟨oe4, vs4, he4, hz4, hd4⟩, ⟨oe4, he4⟩, fun h1 h2 ⟨oe, vs, e1, z1, d1⟩ k => ⟨oe, vs, k _ e1, z1, d1⟩⟩
    refine store_ok (X := X.suite a (X.pn ++ pins)) (v := .ref a) (T4.suite0 a) hN hi hloc rfl (fun s5 S5 => ?_) (.inr hln)
    refine wpAny_mono ((hsu a (X.pn ++ pins)).run [] s5 _ _ _ S5 (hyes a na)) (fun f s6 hsp => ?_) (fun _ _ z => False.elim z)
    have end_ : ∀ {σ6 : St} {H6 : Hp} {Q : Shared → Prop}, Inv (X.suite a (X.pn ++ pins)) [] σ6 H6 s6 → (∀ s7, Inv X pins (σ6.set i none) H6 s7 → Q s7) →
        wpAny (model X.prog X.w) X.A (do bindName X.env n .none; unbindBehindTheSuite X.env n pos') (fun _ s7 => Q s7) X.xe s6 := fun {σ6 H6 Q} S6 hq => gone_ok (S6.unsuite0 ok) hN hi hln hq
    cases f with
    | next =>
      obtain ⟨σ6, H6, S6, q6⟩ := hsp
      exact end_ S6 fun s7 J7 => ⟨_, _, J7, q6⟩
    | brk =>
      obtain ⟨σ6, H6, S6, q6⟩ := hsp
      exact end_ S6 fun s7 J7 => ⟨_, _, J7, q6⟩
    | cont =>
      obtain ⟨σ6, H6, S6, q6⟩ := hsp
      exact end_ S6 fun s7 J7 => ⟨_, _, J7, q6⟩
    | ret u =>
      obtain ⟨v6, σ6, H6, S6, r6, q6⟩ := hsp
      exact end_ S6 fun s7 J7 => ⟨_, _, _, J7, r6, q6⟩
  · cases f with
    | next =>
      obtain ⟨σ', H', J', q⟩ := hsp
      exact wpAny_execs_nil ⟨σ', H', J'.ofTry ok, q⟩
    | brk =>
      obtain ⟨σ', H', J', q⟩ := hsp
      exact ⟨σ', H', J'.ofTry ok, q⟩
    | cont =>
      obtain ⟨σ', H', J', q⟩ := hsp
      exact ⟨σ', H', J'.ofTry ok, q⟩
    | ret u =>
      obtain ⟨v, σ', H', J', r, q⟩ := hsp
      exact ⟨v, σ', H', J'.ofTry ok, r, q⟩
/-- isinstance(e, c), e an error that is looked at -/
def rIsV (K : PySem.W.Frag) : List V → Hp → VK → Prop := fun xs H Q => ∃ (a D : Addr) (c : V) (cv : Value) (b : Bool), xs = [.ref a, c] ∧ H a = some (Hs.ExV D a) ∧ ExcC K D ∧ (∀ u, RelV c u → u = cv) ∧ PySem.W.kitOne K (.ref D) cv = some b ∧ Q (.bl b) H
theorem call_isV {X : Cx} : CallR X (.builtin "isinstance") (rIsV X.K) := by
  intro pins s σ H xs us Q I r h
  obtain ⟨a, D, c, cv, b, rfl, ha, C, hcv, e, q⟩ := h
  cases r with
  | cons rx rr =>
    cases rr with
    | cons rt rr =>
      cases rr
      cases rx
      have ec := hcv _ rt
      subst ec
      obtain ⟨⟨oe, vs, hget, hz, hv⟩, _⟩ := I.hok a _ ha
      have J : PySem.W.InstAt s.heap a oe D none := by
        obtain ⟨oc, od, oda, osl⟩ := oe
        obtain ⟨h1, h2⟩ := hz
        dsimp only at h1 h2 hv
        subst h1 h2 hv
        exact ⟨hget, rfl, rfl, trivial⟩
      exact PySem.W.kia_one (PySem.W.handS_kitx_exc C.hg C.hk C.hs C.hd C.ha C.hn C.ht C.hm) I.kIn J e (fun z => nomatch z) fun tk => ⟨.bl b, H, I.kept (t' := tk) fun _ _ z => z, rfl, q⟩
end
end L2
namespace Hs
open PySem PySem.Spec PyProof.Rows L2
/-- try: body / except C as e: suite; ns: the classes under C that the body may raise -/
def fTry (ns : List Str) (i : Nat) (body suite : FS) : FS := fun E s => body { E with xx := fun n s1 => n ∈ ns ∧ suite { E with nx := fun s2 => E.nx (s2.set i .no), bk := fun s2 => E.bk (s2.set i .no), ct := fun s2 => E.ct (s2.set i .no), xx := fun _ _ => False } (s1.set i (.d (excD n))) } s
section
variable {K : PySem.W.Frag} {Z Y H : Hp} {σ : St} {s : S}
theorem Rel.unset (r : Rel K Z Y H σ s) (i : Nat) : Rel K Z Y H (σ.set i none) (s.set i .no) :=
  r.re (fun k => if k = i then none else some k) (by rw [List.length_set, List.length_set]; exact r.len) (fun k => by
    by_cases h : k = i
    · subst h
      simp only [if_pos rfl]
      refine .inl ?_
      by_cases hk : k < s.length
      · exact getD_set_self hk
      · exact getD_out (by rw [List.length_set]; omega)
    · simp only [if_neg h]
      exact ⟨getD_set_ne (Ne.symm h), getD_set_ne (Ne.symm h)⟩) (fun k k' j h h' => by
    by_cases a : k = i
    · rw [if_pos a] at h; cases h
    · rw [if_neg a] at h
      by_cases b : k' = i
      · rw [if_pos b] at h'; cases h'
      · rw [if_neg b] at h'; cases h; cases h'; rfl)
end
section
variable {X : Cx} {L : Lv} {x n : Str} {c : Value} {i : Nat} {body suite : List Stmt} {b₀ : Stmt} {np pos pos' : Pos} {fb fs : FS} {ns : List Str}
theorem pfs_try (hs : X.stack = X.env :: X.outer) (hf : X.env.frame = some X.env.locals) (hN : X.N.Nodup) (hi : X.N[i]? = some n) (hln : X.env.kindOf n = some .local) (hc : Names X x c)
    (hns : ∀ m ∈ ns, X.mg m = some (.ref (He.ga X.K m)) ∧ PySem.W.exmOne X.K (.ref (He.ga X.K m)) c = some true)
    (hb : ∀ (W : WX) (pn : List (Addr × Obj)) (xe : Value → Shared → Prop), Takes (X.tr pn xe) W → PFSs (X.tr pn xe) { L with E := W } body fb)
    (hsu : ∀ (a : Addr) (pn : List (Addr × Obj)), PFSs (X.suite a pn) L (b₀ :: suite) fs) (hio : i ∉ L.io := by exact of_decide_eq_true rfl) :
    PFS X L (.Try body [.ExceptHandler (some (.Name x np)) (some n) (b₀ :: suite) pos'] [] [] pos) (fTry ns i fb fs) :=
  PS_imp (ps_try_exc hs hf hN hi hln hc (tb := fun W => liftS X { L with E := W } fb) (ts := liftS X L fs) (fun W pn xe tk => PSs_imp (hb W pn xe tk) fun D σ H ⟨Z, Y, s, Ef, r, k, h, eo⟩ => ⟨Z, Y, s, Ef, r, k, h, ⟨eo.nx, eo.rt, eo.bk, eo.ct, eo.xx⟩⟩) (fun a pn => PSs_imp (hsu a pn) fun D σ H ⟨Z, Y, s, Ef, r, k, h, eo⟩ => ⟨Z, Y, s, Ef, r, k, h, ⟨eo.nx, eo.rt, eo.bk, eo.ct, eo.xx⟩⟩)) fun D σ H ⟨Z, Y, s, Ef, r, k, h, eo⟩ => by
  refine ⟨Z, Y, s, _, r, k, h, ⟨eo.nx, eo.rt, eo.bk, eo.ct, ?_⟩⟩
  rintro m C Z' H' σ' s' hz k' r' ⟨hm, q⟩ e
  obtain ⟨e2, hx⟩ := hns m hm
  rw [e2] at e
  cases e
  refine ⟨rfl, _, rfl, hx, fun a na => ?_⟩
  have r1 := Rel.newZ r' (ExV (He.ga X.K m) a) na
  have z1 : Same Z' (upd Z' a (ExV (He.ga X.K m) a)) := same_upd (r'.fresh na)
  refine ⟨_, Y, _, _, Rel.put (r1.pushD (Rp.exc upd_same)) r1.len i, L.keeps_set k' hio, q, ⟨fun σ2 H2 Z2 s2 hz2 k2 r2 h2 => ?_, fun v σ2 H2 Z2 r s2 hz2 k2 r2 h2 => ?_, fun σ2 H2 Z2 s2 hz2 k2 r2 h2 => ?_, fun σ2 H2 Z2 s2 hz2 k2 r2 h2 => ?_, XOk.none⟩⟩
  · exact eo.nx _ _ _ _ ((hz.trans z1).trans hz2) (L.keeps_set k2 hio) (r2.unset i) h2
  · exact eo.rt _ _ _ _ _ _ ((hz.trans z1).trans hz2) k2 r2 h2
  · exact eo.bk _ _ _ _ ((hz.trans z1).trans hz2) (L.keeps_set k2 hio) (r2.unset i) h2
  · exact eo.ct _ _ _ _ ((hz.trans z1).trans hz2) (L.keeps_set k2 hio) (r2.unset i) h2
end
def bIsX (tb : List (Str × Bool)) : V1 := fun d k => match d with
  | .dict [(.none, .str c)] => match tb.lookup c with
    | some b => k (.d (.bool b))
    | none => False
  | _ => False
section
variable {K : PySem.W.Frag} {Z H : Hp} {v : V} {c : Str}
theorem RpV.exc (r : RpV K Z H v (.dict [(.none, .str c)])) (e : Same Z H) : ∃ a : Addr, v = .ref a ∧ H a = some (ExV (He.ga K c) a) := by
  rcases r with r | ⟨p, vs, xs', rfl, e2, h, z, a⟩ | ⟨p, kvs, rfl, e2, h⟩
  · generalize e0 : (PyData.dict [(.none, .str c)]) = d at r
    cases r with
    | lit h z =>
      unfold litD at e0
      injection e0 with e1
      injection e1 with e2 _
      injection e2 with _ e3
      cases e3
    | exc h =>
      unfold excD at e0
      injection e0 with e1
      injection e1 with e2 _
      injection e2 with _ e3
      injection e3 with e4
      subst e4
      exact ⟨_, rfl, e _ _ h⟩
    | dcK h a => cases e0; exact a.nolit.elim
    | dcT h a => cases e0
    | obj h1 h2 a => cases e0
    | _ => cases e0
  · cases e2
  · cases e2
    rcases h with ⟨ks, e1, r⟩ | ⟨ks, kvs', e0, e1, r⟩
    · exact r.nolit.elim
    · cases e0
end
section
variable {X : Cx} {L : Lv} {a : Expr} {fa : FE} {p p2 pos : Pos} {y : Str}
theorem isX_ok {tb : List (Str × Bool)} {w : V} {cv : Value} (hcv : ∀ u, RelV w u → u = cv) (hf : ∀ c b, tb.lookup c = some b → ExcC X.K (He.ga X.K c) ∧ PySem.W.kitOne X.K (.ref (He.ga X.K c)) cv = some b) {σ : St} {H : Hp} {Q : VK} (h : liftE X L (fUn (bIsX tb) fa) σ H Q) :
    tCB (rIsV X.K) (tCons (liftE X L fa) (tCons (tC w) tNil)) σ H Q := by
  obtain ⟨Z, Y, s, Xf, Qf, r, k, xo, h, q⟩ := h
  refine ⟨Z, Y, s, Xf, _, r, k, xo, h, fun v H1 Z1 r1 s1 hz rx h1 => ?_⟩
  obtain ⟨d, e1, h3⟩ := look_ok h1
  obtain ⟨v', ev, rv⟩ := rx.look (k := 0) rfl e1
  cases ev
  unfold bIsX at h3
  split at h3
  · split at h3
    · rename_i b hb
      obtain ⟨a, rfl, ha⟩ := rv.exc rx.rel0.zh
      obtain ⟨C, hk⟩ := hf _ _ hb
      exact ⟨a, _, w, cv, b, rfl, ha, C, hcv, hk, q _ H1 Z1 _ s1 hz (.d rx.rel0 (.bl _)) h3⟩
    · exact h3.elim
  · exact h3.elim
theorem pf_isX {tb : List (Str × Bool)} (ha : PF X L a fa) (hm : X.mg "isinstance" = none) (hC : X.mg y = some (.ref (He.ga X.K y))) (hf : ∀ c b, tb.lookup c = some b → ExcC X.K (He.ga X.K c) ∧ PySem.W.kitOne X.K (.ref (He.ga X.K c)) (.ref (He.ga X.K y)) = some b)
    (hg : Gl X "isinstance" := by rfl) (hgT : Gl X y := by rfl) (hdT : (y == ("__debug__" : Str)) = false := by decide) (he : starEach [a, .Name y p2] X.env = (false, eval a X.env) :: starEach [.Name y p2] X.env := by rfl) (he2 : starEach [.Name y p2] X.env = (false, eval (.Name y p2) X.env) :: starEach [] X.env := by rfl)
    (hpl : (backTo pos (starEach [.Name y p2] X.env)).any (·.1) = false := by rfl) : PF X L (.Call (.Name "isinstance" p) [a, .Name y p2] [] pos) (fUn (bIsX tb) fa) :=
  PE_imp (pe_callB call_isV hg hm (by decide +kernel) (pa_cons ha (pa_cons (pe_glob (v := .ref (He.ga X.K y)) hgT hC rfl hdT) pa_nil he2) he) (by decide) (by decide) he hpl) fun _ _ _ => isX_ok (fun u (e : RelV (.ref (He.ga X.K y)) u) => e) hf
theorem pf_isXT {tb : List (Str × Bool)} {T : String} (ha : PF X L a fa) (hm : X.mg "isinstance" = none) (hmT : X.mg y = none) (hbT : bootBuiltins y = some (.type T)) (hf : ∀ c b, tb.lookup c = some b → ExcC X.K (He.ga X.K c) ∧ PySem.W.kitOne X.K (.ref (He.ga X.K c)) (.type T) = some b)
    (hg : Gl X "isinstance" := by rfl) (hgT : Gl X y := by rfl) (hnT : y ≠ "__name__" := by decide) (hdT : (y == ("__debug__" : Str)) = false := by decide) (he : starEach [a, .Name y p2] X.env = (false, eval a X.env) :: starEach [.Name y p2] X.env := by rfl) (he2 : starEach [.Name y p2] X.env = (false, eval (.Name y p2) X.env) :: starEach [] X.env := by rfl)
    (hpl : (backTo pos (starEach [.Name y p2] X.env)).any (·.1) = false := by rfl) : PF X L (.Call (.Name "isinstance" p) [a, .Name y p2] [] pos) (fUn (bIsX tb) fa) :=
  PE_imp (pe_callB call_isV hg hm (by decide +kernel) (pa_cons ha (pa_cons (pe_bltn (v := .ty T) hgT hmT hbT rfl hnT hdT) pa_nil he2) he) (by decide) (by decide) he hpl) fun _ _ _ => isX_ok (fun u (e : RelV (.ty T) u) => e) hf
end
def mCountB : LM := fun xs ds k => match boolsOf xs, ds with
  | some bs, [.bool b] => k (.int (bs.count b : Nat)) xs
  | _, _ => False
def mIndexB : LM := fun xs ds k => match boolsOf xs, ds with
  | some bs, [.bool b] => b ∈ bs ∧ k (.int (bs.idxOf b : Nat)) xs
  | _, _ => False
theorem upd_back {H : Hp} {p : Addr} {o : HO} (h : H p = some o) : upd H p o = H := by
  funext b
  by_cases e : b = p
  · rw [e, upd_same, h]
  · rw [upd_ne e]
def eqkB (b : Bool) (v : Value) : Bool := match v with
  | .bool c => c == b
  | _ => false
theorem bools_count {b : Bool} : ∀ {bs : List Bool} {us : List Value}, Vals (bs.map V.bl) us → us.countP (eqkB b) = bs.count b
  | [], _, .nil => rfl
  | c :: bs, u :: us, .cons r rr => by
    have ih := bools_count (b := b) rr
    cases r
    rw [List.countP_cons, List.count_cons, ih]
    rfl
theorem bools_are : ∀ {bs : List Bool} {us : List Value}, Vals (bs.map V.bl) us → ∀ u ∈ us, ∃ c, u = Value.bool c
  | [], _, .nil, u, h => by cases h
  | c :: bs, u :: us, .cons r rr, v, h => by
    cases r
    rcases List.mem_cons.mp h with rfl | h
    · exact ⟨c, rfl⟩
    · exact bools_are rr v h
section
variable {X : Cx}
theorem fm_countB : MtR X "list.count" (rLm X.K mCountB) := by
  intro pins s σ H x us v vs Q I rx rv ⟨Z, p, ws, xs, ds, Qf, ex, hp, hl, ra, hz, rd, g, q⟩
  unfold mCountB at g
  split at g
  · rename_i bs b eb
    cases rd with
    | cons r1 r2 =>
      cases r2
      cases r1
      subst ex
      rw [boolsOf_eq eb] at ra
      rw [ra.bools] at hp
      cases rx
      obtain ⟨u, rfl, ru⟩ := rv.one
      cases ru
      obtain ⟨z, its, n, r, hl2, e⟩ := I.lstM hp
      refine call_meets PySem.F.slot_list_count ⟨_, e, rfl⟩ PySem.F.entry_list_count (PySem.F.args_list_count_2 _ _)
        (SeqAt.list_countAt p its.toArray n _ _ (.bool b) (eqkB b)) ⟨e, fun y hy => ?_, ?_⟩
      · obtain ⟨c, rfl⟩ := bools_are r y (by simpa using hy)
        exact SeqAt.EqAt.bool_bool c b
      · have ec : its.toArray.toList.countP (eqkB b) = bs.count b := bools_count r
        refine ⟨.int (bs.count b : Nat), H, I.tok _, ⟨s.toks, ?_⟩, ?_⟩
        · show Value.int ((its.toArray.toList.countP (eqkB b) : Nat) : Int) s.toks = Value.int ((bs.count b : Nat) : Int) s.toks
          rw [ec]
        · have q2 := q _ _ ws xs g (.int _) hl (by rw [boolsOf_eq eb]; exact ra)
          rw [ra.bools, upd_back hp] at q2
          exact q2
  · exact g.elim
theorem fm_indexB : MtR X "list.index" (rLm X.K mIndexB) := by
  intro pins s σ H x us v vs Q I rx rv ⟨Z, p, ws, xs, ds, Qf, ex, hp, hl, ra, hz, rd, g, q⟩
  unfold mIndexB at g
  split at g
  · rename_i bs b eb
    obtain ⟨gm, g⟩ := g
    cases rd with
    | cons r1 r2 =>
      cases r2
      cases r1
      have hj : bs.idxOf b < bs.length := List.idxOf_lt_length_of_mem gm
      have hx := boolsOf_eq eb
      have ra0 := ra
      rw [hx] at ra
      have hw := ra.bools
      have hp0 := hp
      rw [hw] at hp
      refine mt_index pins s σ H x _ v vs Q I rx rv ⟨p, bs.map V.bl, .bl b, bs.idxOf b, .bl b, ex, rfl, .inl (.inl hp), rfl, ?_, ?_, ?_, fun m z' hm e => ?_, ?_⟩
      · exact List.all_eq_true.mpr fun y hy => by
          obtain ⟨c, _, rfl⟩ := List.mem_map.mp hy
          rfl
      · rw [List.getElem?_map, List.getElem?_eq_getElem hj, List.getElem_idxOf]; rfl
      · exact beq_self_eq_true b
      · rw [List.getElem?_map] at e
        have hmb : m < bs.length := by omega
        rw [List.getElem?_eq_getElem hmb] at e
        cases e
        refine beq_eq_false_iff_ne.mpr fun e2 => ?_
        have := List.not_of_lt_findIdx (p := (· == b)) (xs := bs) (i := m) hm
        rw [e2] at this
        simp at this
      · have q2 := q _ _ ws xs g (.int _) hl ra0
        rw [upd_back hp0] at q2
        exact q2
  · exact g.elim
variable {L : Lv} {e : Expr} {st : Stmt}
end
end Hs
namespace Hs
open PySem PySem.Spec PyProof.Rows L2
theorem excB_ok {K : PySem.W.Frag} {D : Addr} (h : excB K D = true) : ExcC K D := by
  obtain ⟨h1, h⟩ := He.ba h
  obtain ⟨h2, h⟩ := He.ba h
  obtain ⟨h3, h⟩ := He.ba h
  obtain ⟨h4, h⟩ := He.ba h
  obtain ⟨h5, h⟩ := He.ba h
  obtain ⟨h6, h⟩ := He.ba h
  obtain ⟨h7, h8⟩ := He.ba h
  exact ⟨of_decide_eq_true h1, of_decide_eq_true h2, of_decide_eq_true h3, h4, of_decide_eq_true h5, of_decide_eq_true h6, of_decide_eq_true h7, of_decide_eq_true h8⟩
theorem lookup_mem {c : Str} {b : Bool} : ∀ {tb : List (Str × Bool)}, tb.lookup c = some b → (c, b) ∈ tb
  | [], h => by cases h
  | (d, e) :: tb, h => by
    rw [List.lookup_cons] at h
    cases q : (c == d) with
    | true =>
      rw [q] at h
      cases h
      rw [beq_iff_eq.mp q]
      exact List.mem_cons_self
    | false =>
      rw [q] at h
      exact List.mem_cons_of_mem _ (lookup_mem h)
theorem ExQ.row_ok {K : PySem.W.Frag} {cv : Value} {tb : List (Str × Bool)} (h : ExQ.row K cv tb = true) : ∀ c b, tb.lookup c = some b → ExcC K (He.ga K c) ∧ PySem.W.kitOne K (.ref (He.ga K c)) cv = some b := fun c b e => by
  obtain ⟨h1, h2⟩ := He.ba (List.all_eq_true.mp h (c, b) (lookup_mem e))
  exact ⟨excB_ok h1, of_decide_eq_true h2⟩
structure TxOkQ (fa : List He.Fa) (fn : List He.DefD) (exl : List ExQ) (K : PySem.W.Frag) (mg : Str → Option Value) (base : Heap) : Prop extends TxOk fa fn K mg base where
  q : (exl.all fun e => e.ok K) = true
section
variable {fa : List He.Fa} {fn : List He.DefD} {exl : List ExQ} {K : PySem.W.Frag} {mg : Str → Option Value} {base : Heap}
theorem TxOk.exm (T : TxOk fa fn K mg base) (i : Nat) {x y : Str} {b : Bool} (h : fa[i]? = some (.exm x y b) := by rfl) : PySem.W.exmOne K (.ref (He.ga K x)) (.ref (He.ga K y)) = some b := of_decide_eq_true (T.c.fact i h)
theorem TxOkQ.isOwn (T : TxOkQ fa fn exl K mg base) (i : Nat) {y : Str} {tb : List (Str × Bool)} (h : exl[i]? = some (.own y tb) := by rfl) : ∀ c b, tb.lookup c = some b → ExcC K (He.ga K c) ∧ PySem.W.kitOne K (.ref (He.ga K c)) (.ref (He.ga K y)) = some b :=
  ExQ.row_ok (List.all_eq_true.mp T.q _ (List.mem_of_getElem? h))
theorem TxOkQ.isTy (T : TxOkQ fa fn exl K mg base) (i : Nat) {y : String} {tb : List (Str × Bool)} (h : exl[i]? = some (.ty y tb) := by rfl) : ∀ c b, tb.lookup c = some b → ExcC K (He.ga K c) ∧ PySem.W.kitOne K (.ref (He.ga K c)) (.type y) = some b :=
  ExQ.row_ok (List.all_eq_true.mp T.q _ (List.mem_of_getElem? h))
end
theorem mem_cons' {α : Type} {p : α → Prop} {a : α} {l : List α} (h1 : p a) (h2 : ∀ x ∈ l, p x) : ∀ x ∈ a :: l, p x := List.forall_mem_cons.mpr ⟨h1, h2⟩
theorem mem_nil' {α : Type} {p : α → Prop} : ∀ x ∈ ([] : List α), p x := fun x h => nomatch h
theorem st_isX {tb : List (Str × Bool)} {c : Str} {b : Bool} {k : R → Prop} (e : tb.lookup c = some b) (h : k (.d (.bool b))) : bIsX tb (excD c) k := by
  show (match tb.lookup c with
    | some b => k (.d (.bool b))
    | none => False)
  rw [e]; exact h
theorem st_countB {bs : List Bool} {b : Bool} {kk : D → List D → Prop} (h : kk (.int (bs.count b : Nat)) (bs.map .bool)) : mCountB (bs.map .bool) [.bool b] kk := by
  unfold mCountB
  rw [boolsOf_map]
  exact h
theorem st_indexB {bs : List Bool} {b : Bool} {kk : D → List D → Prop} (m : b ∈ bs) (h : kk (.int (bs.idxOf b : Nat)) (bs.map .bool)) : mIndexB (bs.map .bool) [.bool b] kk := by
  unfold mIndexB
  rw [boolsOf_map]
  exact ⟨m, h⟩
theorem st_try {ns : List Str} {i : Nat} {body suite : FS} {E : FEnds} {s : S}
    (h : body ⟨E.nx, E.rt, E.bk, E.ct, fun n s1 => n ∈ ns ∧ suite ⟨fun s2 => E.nx (s2.set i .no), E.rt, fun s2 => E.bk (s2.set i .no), fun s2 => E.ct (s2.set i .no), fun _ _ => False⟩ (s1.set i (.d (excD n)))⟩ s) : fTry ns i body suite E s := h
end Hs
namespace Hs
open PySem PySem.Spec PyProof.Rows L2
def fEmD : FE := fun _ s Q => Q (.own (.dc [])) s
theorem st_emD {X : XF} {s : S} {Q : R → S → Prop} (h : Q (.own (.dc [])) s) : fEmD X s Q := h
end Hs
namespace Hs
open PySem PySem.Spec PyProof.Rows L2
end Hs
namespace Hs
open PySem PySem.Spec PyProof.Rows L2
def keyN : D → Option Key
  | .int i => some (.inl i)
  | .str x => some (.inr x)
  | _ => none
def keysN : List D → Option (List Key)
  | [] => some []
  | d :: r => match keyN d, keysN r with
    | some k, some ks => some (k :: ks)
    | _, _ => none
theorem keyN_keyD (k : Key) : keyN (keyD k) = some k := by cases k <;> rfl
theorem keysN_map : ∀ ks : List Key, keysN (ks.map keyD) = some ks
  | [] => rfl
  | k :: ks => by rw [List.map_cons, keysN, keyN_keyD, keysN_map ks]
def sameN (d : D) (k : Key) : Bool := decide (keyN d = some k)
def sameT (d : D) (k : List Key) : Bool := match d with
  | .tuple ds => decide (keysN ds = some k)
  | _ => false
theorem sameN_keyD (j k : Key) : sameN (keyD j) k = decide (j = k) := by
  unfold sameN
  rw [keyN_keyD]
  by_cases h : j = k
  · subst h; simp
  · rw [decide_eq_false h, decide_eq_false (fun e => h (Option.some.inj e))]
theorem sameT_keysD (j k : List Key) : sameT (keysD j) k = decide (j = k) := by
  unfold sameT keysD
  dsimp only
  rw [keysN_map]
  by_cases h : j = k
  · subst h; simp
  · rw [decide_eq_false h, decide_eq_false (fun e => h (Option.some.inj e))]
/-- what a dict holds -/
def dGet (kvs : List (D × D)) (k : D) (Q : Option D → Prop) : Prop := match kvs with
  | (.none, .none) :: r => match k with
    | .tuple ds => match keysN ds with
      | some ks => Q ((r.find? fun p => sameT p.1 ks).map (·.2))
      | none => False
    | _ => False
  | (.none, _) :: _ => False
  | kvs => match keyN k with
    | some k' => Q ((kvs.find? fun p => sameN p.1 k').map (·.2))
    | none => False
def putN (kvs : List (D × D)) (k : Key) (x : D) : List (D × D) :=
  if (kvs.any fun p => sameN p.1 k) = true then kvs.map (fun p => if sameN p.1 k = true then (p.1, x) else p) else kvs ++ [(keyD k, x)]
def putT (kvs : List (D × D)) (k : List Key) (x : D) : List (D × D) :=
  if (kvs.any fun p => sameT p.1 k) = true then kvs.map (fun p => if sameT p.1 k = true then (p.1, x) else p) else kvs ++ [(keysD k, x)]
def dPut (kvs : List (D × D)) (k x : D) (Q : List (D × D) → Prop) : Prop := match kvs with
  | (.none, .none) :: r => match k with
    | .tuple ds => match keysN ds with
      | some ks => r.length < sizeLine ∧ Q ((.none, .none) :: putT r ks x)
      | none => False
    | _ => False
  | (.none, _) :: _ => False
  | kvs => match keyN k with
    | some k' => kvs.length < sizeLine ∧ Q (putN kvs k' x)
    | none => False
section
variable {K : PySem.W.Frag} {Z H : Hp}
def OptR (K : PySem.W.Frag) (H : Hp) (v : Option V) (d : Option D) : Prop := match v, d with
  | none, none => True
  | some v, some d => Rp K H v d
  | _, _ => False
theorem RpK.get (k : Key) : ∀ {ks : List (Key × V)} {kvs : List (D × D)}, RpK K H ks kvs → OptR K H (valV ks k) ((kvs.find? fun p => sameN p.1 k).map (·.2))
  | _, _, .nil => True.intro
  | _, _, .cons (k := j) (ks := ks) h r => by
    rw [List.find?_cons]
    dsimp only
    rw [sameN_keyD]
    by_cases e : j = k
    · rw [decide_eq_true e, valV_pos (p := (j, _)) e]
      exact h
    · rw [decide_eq_false e, valV_neg (p := (j, _)) e]
      exact RpK.get k r
theorem RpT.get (k : List Key) : ∀ {ks : List (List Key × V)} {kvs : List (D × D)}, RpT K H ks kvs → OptR K H (valV ks k) ((kvs.find? fun p => sameT p.1 k).map (·.2))
  | _, _, .nil => True.intro
  | _, _, .cons (k := j) (ks := ks) h r => by
    rw [List.find?_cons]
    dsimp only
    rw [sameT_keysD]
    by_cases e : j = k
    · rw [decide_eq_true e, valV_pos (p := (j, _)) e]
      exact h
    · rw [decide_eq_false e, valV_neg (p := (j, _)) e]
      exact RpT.get k r
theorem RpK.any (k : Key) : ∀ {ks : List (Key × V)} {kvs : List (D × D)}, RpK K H ks kvs → (ks.any fun kv => decide (kv.1 = k)) = kvs.any fun p => sameN p.1 k
  | _, _, .nil => rfl
  | _, _, .cons (k := j) h r => by rw [List.any_cons, List.any_cons, RpK.any k r, sameN_keyD]
theorem RpT.any (k : List Key) : ∀ {ks : List (List Key × V)} {kvs : List (D × D)}, RpT K H ks kvs → (ks.any fun kv => decide (kv.1 = k)) = kvs.any fun p => sameT p.1 k
  | _, _, .nil => rfl
  | _, _, .cons (k := j) h r => by rw [List.any_cons, List.any_cons, RpT.any k r, sameT_keysD]
theorem RpK.length : ∀ {ks : List (Key × V)} {kvs : List (D × D)}, RpK K H ks kvs → ks.length = kvs.length
  | _, _, .nil => rfl
  | _, _, .cons _ r => congrArg (· + 1) (RpK.length r)
theorem RpT.length : ∀ {ks : List (List Key × V)} {kvs : List (D × D)}, RpT K H ks kvs → ks.length = kvs.length
  | _, _, .nil => rfl
  | _, _, .cons _ r => congrArg (· + 1) (RpT.length r)
theorem RpK.mark {ks : List (Key × V)} {x : D} {r : List (D × D)} (h : RpK K H ks ((.none, x) :: r)) : False := h.nolit
/-- a dict that is looked at -/
theorem RpV.dict {v : V} {kvs : List (D × D)} (r : RpV K Z H v (.dict kvs)) (e : Same Z H) : (∃ p ks, v = .ref p ∧ Rd H p (.dK ks) ∧ RpK K Z ks kvs) ∨ (∃ p ks kvs', v = .ref p ∧ kvs = (.none, .none) :: kvs' ∧ H p = some (.dT ks) ∧ RpT K Z ks kvs') ∨ ∃ x r, kvs = (.none, x) :: r ∧ x ≠ .none := by
  rcases r with r | ⟨p, vs, xs', rfl, e2, h, z, a⟩ | ⟨p, kvs', rfl, e2, h⟩
  · generalize e0 : (PyData.dict kvs) = d at r
    cases r with
    | dcK h a => cases e0; exact .inl ⟨_, _, rfl, same_rd e h, a⟩
    | dcT h a => cases e0; exact .inr (.inl ⟨_, _, _, rfl, rfl, e _ _ h, a⟩)
    | lit h z => cases e0; exact .inr (.inr ⟨_, _, rfl, fun z => nomatch z⟩)
    | exc h => cases e0; exact .inr (.inr ⟨_, _, rfl, fun z => nomatch z⟩)
    | obj h1 h2 a => cases e0; exact .inr (.inr ⟨_, _, rfl, fun z => nomatch z⟩)
    | _ => cases e0
  · cases e2
  · cases e2
    rcases h with ⟨ks, e1, r⟩ | ⟨ks, kvs', e0, e1, r⟩
    · exact .inl ⟨_, _, rfl, .inl e1, r⟩
    · exact .inr (.inl ⟨_, _, _, rfl, e0, e1, r⟩)
theorem RpV.key {v : V} {k : Key} (r : RpV K Z H v (keyD k)) : v = kV k := by
  cases k with
  | inl i => exact RpV.int r
  | inr x => exact RpV.str r
theorem RpAll.keys : ∀ {vs : List V} {ks : List Key}, RpAll K Z vs (ks.map keyD) → vs = ks.map kV
  | _, [], .nil => rfl
  | _, k :: ks, .cons h a => by
    rw [RpAll.keys a, RpV.key (H := Z) (.inl h)]; rfl
theorem RpV.keys {v : V} {ks : List Key} (r : RpV K Z H v (.tuple (ks.map keyD))) (e : Same Z H) : ∃ b, v = .ref b ∧ H b = some (.tup (ks.map kV)) := by
  have r := fop_add.RpV.tupZ r
  cases r with
  | tup h z a =>
    rw [a.keys] at h
    exact ⟨_, rfl, e _ _ h⟩
end
theorem OptR.isSome {K : PySem.W.Frag} {H : Hp} {o : Option V} {d : Option D} (r : OptR K H o d) : o.isSome = d.isSome := by
  cases o <;> cases d <;> first | rfl | exact r.elim
section
variable {X : Cx} {L : Lv} {e a b c : Expr} {es : List Expr} {fa fb fc fj fx : FE} {ft : FT} {fr : FA} {pos p : Pos}
/-- d[k], xs[k] -/
def ixD2 : V2 := fun d e Q => ixD d e Q ∨ ∃ kvs, d = .dict kvs ∧ dGet kvs e fun o => ∃ x, o = some x ∧ Q (.d x)
/-- k in d, k in xs -/
def cInK : V2 := fun d e Q => cIn d e Q ∨ ∃ kvs, e = .dict kvs ∧ dGet kvs d fun o => Q (.d (.bool o.isSome))
def cNotInK : V2 := fun d e Q => cNotIn d e Q ∨ ∃ kvs, e = .dict kvs ∧ dGet kvs d fun o => Q (.d (.bool (!o.isSome)))
def onDc (i : Nat) (s : S) (k : List (D × D) → Prop) : Prop := match s.getD i .no with
  | .dc kvs => k kvs
  | _ => False
/-- d[k] = x -/
def fSetD (i : Nat) (j a : FE) : FS := fun E s => a E.xx s fun r s1 => onDc i s1 fun _ => j E.xx s1 fun rj s2 => frzAll [r, rj] s2 fun ds s3 => match ds with
  | [d, k] => onDc i s3 fun kvs => dPut kvs k d fun kvs' => E.nx (s3.set i (.dc kvs'))
  | _ => False
variable {y : Str} {px : Pos}
/-- d.get(k, x) -/
def fDGet2 (i : Nat) (j x : FE) : FE := fun X s Q => onDc i s fun _ => j X s fun rj s1 => x X s1 fun rx s2 => frzAll [rj, rx] s2 fun ds s3 => match ds with
  | [k, d] => onDc i s3 fun kvs => dGet kvs k fun o => Q (.d (o.getD d)) s3
  | _ => False
theorem NewR.dc {K : PySem.W.Frag} {Z H : Hp} {p : Addr} {o : HO} {kvs : List (D × D)} (e : Same Z H) (hp : H p = none) (h : DcAt K Z (upd H p o) p kvs) : NewR K Z H Z (upd H p o) (.ref p) (.own (.dc kvs)) :=
  ⟨same_upd hp, Same.refl _, e.trans (same_upd hp), fun _ _ => rfl, [p], ⟨p, rfl, rfl, h⟩, by simp, fun a ha => by
    obtain rfl : a = p := by simpa using ha
    exact ⟨hp, e.free hp⟩⟩
def downD (hi : Int) (n : Nat) : List D := (List.range n).map fun (k : Nat) => PyData.int (hi - (k : Int))
def iRange3 (a : FA) : FI := fun X s Q => a X s fun rs s2 => match rs with
  | [.d (.int i), .d (.int j), .d (.int c)] => c = -1 ∧ lim62 i ∧ lim62 j ∧ Q (downD i (i - j).toNat) s2
  | _ => False
def fEmT : FE := fun _ s Q => Q (.own (.dc [(.none, .none)])) s
end
end Hs
namespace Hs
open PySem PySem.Spec PyProof.Rows L2
section
variable {K : PySem.W.Frag} {Z Z' Y Y' H H' : Hp} {σ σ' : St} {s s' : S}
theorem DcAt.notup {p : Addr} {kvs : List (D × D)} (h : DcAt K Z H p kvs) (vs : List V) : H p ≠ some (.tup vs) := by
  rcases h with ⟨ks, e1, r⟩ | ⟨ks, kvs', e0, e1, r⟩ <;> (rw [e1]; exact fun z => nomatch z)
theorem PartAt.notup {v : V} {w : PV} {F : List Addr} (h : PartAt K Z H v w F) (us : List V) : ∀ a ∈ F, H a ≠ some (.tup us) := fun a ha => h.nt a ha us
theorem TpAt.notup {vs : List V} {ws : List PV} {F : List Addr} (h : TpAt K Z H vs ws F) (us : List V) : ∀ a ∈ F, H a ≠ some (.tup us) := by
  induction h with
  | nil => intro a ha; cases ha
  | cons h r ih =>
    intro a ha
    rcases List.mem_append.mp ha with ha | ha
    · exact h.notup us a ha
    · exact ih a ha
theorem SlotAt.notup {v : Option V} {sv : SV} {F : List Addr} (h : SlotAt K Z H v sv F) (us : List V) : ∀ a ∈ F, H a ≠ some (.tup us) := by
  have LLt : ∀ {qs : List Addr} {xss : List (List D)}, LL K Z H qs xss → ∀ a ∈ qs, H a ≠ some (.tup us) := by
    intro qs xss r
    induction r with
    | nil => intro a ha; cases ha
    | cons h z a r ih =>
      intro b hb
      rcases List.mem_cons.mp hb with rfl | hb
      · rw [h]; exact fun z => nomatch z
      · exact ih b hb
  intro a ha
  cases sv with
  | no => rw [show F = [] from h] at ha; cases ha
  | d x => rw [h.1] at ha; cases ha
  | l xs =>
    obtain ⟨p, vs, h1, h2, h3, h4, h5⟩ := h
    rw [h2] at ha
    obtain rfl : a = p := by simpa using ha
    rw [h3]; exact fun z => nomatch z
  | ll xss =>
    obtain ⟨p, qs, h1, h2, h3, h4, h5⟩ := h
    rw [h2] at ha
    rcases List.mem_cons.mp ha with rfl | ha
    · rw [h3]; exact fun z => nomatch z
    · exact LLt h5 a ha
  | dc kvs =>
    obtain ⟨p, h1, h2, h3⟩ := h
    rw [h2] at ha
    obtain rfl : a = p := by simpa using ha
    exact h3.notup us
  | ob c fs =>
    obtain ⟨p, dx, vs, G, h1, h2, h3, h4, h5⟩ := h
    rw [h2] at ha
    rcases List.mem_cons.mp ha with rfl | ha
    · rw [h3]; exact fun z => nomatch z
    · rcases List.mem_cons.mp ha with rfl | ha
      · rw [h4]; exact fun z => nomatch z
      · exact h5.notup us a ha
  | tp ws =>
    obtain ⟨p, vs, h1, h3, h4, h5⟩ := h
    exact h5.notup us a ha
  | lo ws =>
    obtain ⟨p, vs, G, h1, h2, h3, h4, h5⟩ := h
    rw [h2] at ha
    rcases List.mem_cons.mp ha with rfl | ha
    · rw [h3]; exact fun z => nomatch z
    · exact h5.notup us a ha
def frz1 (w : SV) : SV := match asD w with
  | some x => .d x
  | none => .no
def frzS (s : S) : S := s.map frz1
/-- values without lists and dicts -/
def flatD : D → Bool
  | .none | .bool _ | .int _ | .str _ => true
  | .tuple ds => flatL ds
  | _ => false
where flatL : List D → Bool
  | [] => true
  | d :: ds => flatD d && flatL ds
/-- what comes and holds nothing of what was looked at -/
def flatR (r : R) (k : Prop) : Prop := match r with
  | .d x => flatD x = true ∧ k
  | .own (.l xs) => flatD.flatL xs = true ∧ k
  | _ => False
/-- an expression that only looks at what the slots hold -/
def fBor (e : FE) : FE := fun _ s Q => e (fun _ _ => False) (frzS s) fun r _ => flatR r (Q r s)
def fBorT (t : FT) : FT := fun _ s Q => t (fun _ _ => False) (frzS s) fun b _ => Q b s
/-- behind it -/
theorem Rel.free (r : Rel K Z Y H σ s) {F : Nat → List Addr} {Z1 Z2 : Hp} (o : OwnF K Z Y H σ s F) (hz1 : Same Z Z1) (h1 : ∀ i, ∀ a ∈ F i, Z1 a = H a) (hz2 : Same Z1 Z2) (zh : Same Z2 H') (yh : Same Y H') (zy : ∀ a, Z2 a ≠ none → Y a = none) :
    ∃ Z3, Same Z Z3 ∧ Same Z3 Z2 ∧ (∀ a vs, Z2 a = some (.tup vs) → Z3 a = some (.tup vs)) ∧ OwnF K Z3 Y H' σ s F ∧ (∀ i, ∀ a ∈ F i, Z2 a ≠ none) ∧ (∀ i, ∀ a ∈ F i, Z3 a = none) ∧ Rel K Z3 Y H' σ s := by
  classical
  let Z3 : Hp := fun a => if ∃ i, a ∈ F i then none else Z2 a
  have s3 : Same Z3 Z2 := fun a q e => by
    have e : (if ∃ i, a ∈ F i then none else Z2 a) = some q := e
    split at e
    · cases e
    · exact e
  have in2 : ∀ i, ∀ a ∈ F i, ∀ ob, H a = some ob → Z2 a = some ob := fun i a ha ob e => hz2 a ob ((h1 i a ha).trans e)
  have s03 : Same Z Z3 := fun a q e => by
    show (if _ then _ else _) = _
    rw [if_neg (fun ⟨i, h⟩ => by rw [(o.fr i a h).1] at e; cases e)]
    exact hz2 a q (hz1 a q e)
  have n3 : ∀ i, ∀ a ∈ F i, Z3 a = none := fun i a ha => if_pos ⟨i, ha⟩
  have oo : OwnF K Z3 Y H' σ s F := ⟨fun i => (o.at_ i).mono s03 fun a ha ob e => zh a ob (in2 i a ha ob e), o.nd, o.dj, fun i a ha => ⟨n3 i a ha, (o.fr i a ha).2⟩⟩
  refine ⟨Z3, s03, s3, fun a vs e => ?_, oo, fun i a ha => ?_, n3, s3.trans zh, yh, fun a ha => ?_, r.yt, r.len, F, oo⟩
  · show (if _ then _ else _) = _
    rw [if_neg]
    · exact e
    · rintro ⟨i, hi⟩
      cases eh : H a with
      | none => exact (o.at_ i).there a hi eh
      | some ob =>
        have := in2 i a hi ob eh
        rw [e] at this
        cases this
        exact (o.at_ i).notup vs a hi eh
  · cases eh : H a with
    | none => exact ((o.at_ i).there a ha eh).elim
    | some ob => rw [in2 i a ha ob eh]; exact fun z => nomatch z
  · cases e : Z3 a with
    | none => exact (ha e).elim
    | some q => exact zy a (by rw [s3 a q e]; exact fun z => nomatch z)
end
section
variable {X : Cx} {L : Lv} {e a b c : Expr} {es : List Expr} {fa fb fc fj fx : FE} {ft : FT} {fr : FA} {pos p : Pos}
def fDisp1 (k v : FE) : FE := fun X s Q => k X s fun rk s1 => v X s1 fun rv s2 => frzAll [rk, rv] s2 fun ds s3 => match ds with
  | [kd, d] => match keyN kd with
    | some k' => Q (.own (.dc [(keyD k', d)])) s3
    | none => False
  | _ => False
end
def toPs : List SV → (List PV → Prop) → Prop
  | [], k => k []
  | .d x :: r, k => toPs r fun ws => k (.d x :: ws)
  | .l xs :: r, k => toPs r fun ws => k (.l xs :: ws)
  | .dc kvs :: r, k => toPs r fun ws => k (.dc kvs :: ws)
  | .ob c fs :: r, k => toPs r fun ws => k (.o c fs :: ws)
  | _ :: _, _ => False
def fTupO (a : FA) : FE := fun X s Q => a X s fun rs s1 => bindA (List.replicate rs.length true) rs s1 fun svs s2 => toPs svs fun ws => Q (.own (.tp ws)) s2
section
variable {X : Cx} {L : Lv} {e a b c : Expr} {es : List Expr} {fa fb fc fj fx : FE} {ft : FT} {fr : FA} {pos p : Pos}
def onP (i k : Nat) (s : S) (kk : List PV → List D → Prop) : Prop := match s.getD i .no with
  | .tp ws => match ws[k]? with
    | some (.l xs) => kk ws xs
    | _ => False
  | _ => False
/-- t[k].m(..) -/
def fLmP (i k : Nat) (g : LM) (a : FA) : FE := fun X s Q => onP i k s fun _ _ => a X s fun rs s1 => frzAll rs s1 fun ds s2 => onP i k s2 fun ws xs => g xs ds fun d xs' => Q (.d d) (s2.set i (.tp (ws.set k (.l xs'))))
variable {nm : Str} {apos cpos : Pos} {y : Str} {px p1 p2 : Pos} {j : Nat} {id : String}
end
end Hs
namespace Hs
open PySem PySem.Spec PyProof.Rows L2
theorem lex_ge : ∀ (ns ms : List Int) (i : Nat) (e r : Nat → Bool), (∀ j, e (i + j) = decide (ns.getD j 0 = ms.getD j 0)) → (∀ j, r (i + j) = decide (ms.getD j 0 ≤ ns.getD j 0)) → Ob.lexAt e r (decide (ns.length ≥ ms.length)) i (min ns.length ms.length) = !HT.lexLt ns ms
  | [], [], i, e, r, _, _ => rfl
  | [], m :: ms, i, e, r, _, _ => by
    rw [show min ([] : List Int).length (m :: ms).length = 0 from by simp, Ob.lexAt_zero]
    rfl
  | n :: ns, [], i, e, r, _, _ => by
    rw [show min (n :: ns).length ([] : List Int).length = 0 from by simp, Ob.lexAt_zero]
    rfl
  | n :: ns, m :: ms, i, e, r, he, hr => by
    rw [show min (n :: ns).length (m :: ms).length = min ns.length ms.length + 1 by simp, Ob.lexAt_succ, HT.lexLt_cons]
    have e0 := he 0
    have r0 := hr 0
    have ih := lex_ge ns ms (i + 1) e r (fun j => by have := he (j + 1); rw [show i + (j + 1) = i + 1 + j by omega] at this; simpa using this) (fun j => by have := hr (j + 1); rw [show i + (j + 1) = i + 1 + j by omega] at this; simpa using this)
    rw [show decide ((n :: ns).length ≥ (m :: ms).length) = decide (ns.length ≥ ms.length) by simp, ih]
    simp only [Nat.add_zero, List.getD_cons_zero] at e0 r0
    rw [e0, r0]
    by_cases h : n = m
    · rw [if_pos (decide_eq_true h), if_pos h]
    · rw [if_neg (by simp [h]), if_neg h]
      by_cases h2 : n < m
      · rw [decide_eq_true h2, decide_eq_false (by omega)]; rfl
      · rw [decide_eq_false h2, decide_eq_true (by omega)]; rfl
/-- > of tuples of ints, by the items' order -/
def rOrdT (K : PySem.W.Frag) (f : List Int → List Int → Bool) : R2 := fun x y H Q => ∃ (a b : Addr) (ns ms : List Int), x = .ref a ∧ y = .ref b ∧ SqT K H a (ns.map V.int) ∧ SqT K H b (ms.map V.int) ∧ Q (.bl (f ns ms)) H
section
variable {X : Cx}
theorem at_ints {its : List Value} {ns : List Int} (h : IntsAre its ns) : ∀ j (h1 : j < its.toArray.size), ∃ t, its.toArray[j] = .int (ns.getD j 0) t := fun j h1 => PyProof.Rows.IntsAre.int_at h _ _ (by simp at h1; simp [h1])
theorem eq_ints {A : Around} {s : Shared} {its its2 : List Value} {ns ms : List Int} (i1 : IntsAre its ns) (i2 : IntsAre its2 ms) : ∀ j (h1 : j < its.toArray.size) (h2 : j < its2.toArray.size), SeqAt.EqAt A s its.toArray[j] its2.toArray[j] (decide (ns.getD j 0 = ms.getD j 0)) := fun j h1 h2 => by
  obtain ⟨t, et⟩ := at_ints i1 j h1
  obtain ⟨t', et'⟩ := at_ints i2 j h2
  rw [et, et']
  have z : (ns.getD j 0 == ms.getD j 0) = decide (ns.getD j 0 = ms.getD j 0) := by
    by_cases q : ns.getD j 0 = ms.getD j 0
    · rw [decide_eq_true q]; exact beq_iff_eq.mpr q
    · rw [decide_eq_false q]; exact beq_eq_false_iff_ne.mpr q
  rw [← z]
  exact SeqAt.EqAt.int_int _ _ _ _
theorem op_geT (hu : X.A.units < cLine) : OpR X (compareOp .GtE) (rOrdT X.K fun ns ms => !HT.lexLt ns ms) := by
  intro pins s σ H x y v u Q I rx ry h
  obtain ⟨a, b, ns, ms, rfl, rfl, ha, hb, q⟩ := h
  cases rx
  cases ry
  obtain ⟨its, r1, p1, _⟩ := I.tuple ha
  obtain ⟨its2, r2, p2, _⟩ := I.tuple hb
  have i1 : IntsAre its ns := Vals.ints r1
  have i2 : IntsAre its2 ms := Vals.ints r2
  have e1 : its.toArray.size = ns.length := by rw [List.size_toArray]; exact i1.length
  have e2 : its2.toArray.size = ms.length := by rw [List.size_toArray]; exact i2.length
  have R := Ob.RcOp.tuples_ge (A := X.A) (s := s) (e := fun j => decide (ns.getD j 0 = ms.getD j 0)) (r := fun j => decide (ms.getD j 0 ≤ ns.getD j 0)) p1 p2 hu (eq_ints i1 i2) (fun j h1 h2 _ => by
    obtain ⟨t, et⟩ := at_ints i1 j h1
    obtain ⟨t', et'⟩ := at_ints i2 j h2
    rw [et, et']
    exact Ob.RcOp.ge_int _ _ _ _)
  rw [e1, e2, lex_ge ns ms 0 _ _ (fun j => by rw [Nat.zero_add]) (fun j => by rw [Nat.zero_add])] at R
  have z : wpAny (model X.prog X.w) X.A (compareOp .GtE (.ref a) (.ref b)) (EP X pins σ Q) X.xe s := R X.prog X.w X.xe (EP X pins σ Q) ⟨.bl _, H, I, rfl, q⟩
  exact z
def ordT (f : List Int → List Int → Bool) : V2 := fun d e Q => ∃ ns ms : List Int, d = .tuple (ns.map .int) ∧ e = .tuple (ms.map .int) ∧ Q (.d (.bool (f ns ms)))
theorem fop_ordT {op : CmpOp} {f : List Int → List Int → Bool} (h : OpR X (compareOp op) (rOrdT X.K f)) : OpR X (compareOp op) (rF2 X.K (ordT f)) := by
  intro pins s σ H x y v u Q I rx ry ⟨Z, d, e, Qf, hz, hd, he, g, q⟩
  obtain ⟨ns, ms, rfl, rfl, g⟩ := g
  obtain ⟨p, vs, rfl, h1, h2, h3⟩ := hd.tuple hz
  obtain ⟨p', vs', rfl, h1', h2', h3'⟩ := he.tuple hz
  rw [h3.ints] at h1
  rw [h3'.ints] at h1'
  exact h pins s σ H _ _ v u Q I rx ry ⟨p, p', ns, ms, rfl, rfl, h1, h1', q _ H Z _ (.d hz (.bl _)) g⟩
def cGe2 : V2 := fun d e Q => cGe d e Q ∨ ordT (fun ns ms => !HT.lexLt ns ms) d e Q
theorem fop_ge2 (hu : X.A.units < cLine) : OpR X (compareOp .GtE) (rF2 X.K cGe2) := by
  intro pins s σ H x y v u Q I rx ry ⟨Z, d, e, Qf, hz, hd, he, g, q⟩
  rcases g with g | g
  · exact fop_ge pins s σ H x y v u Q I rx ry ⟨Z, d, e, Qf, hz, hd, he, g, q⟩
  · exact fop_ordT (op_geT hu) pins s σ H x y v u Q I rx ry ⟨Z, d, e, Qf, hz, hd, he, g, q⟩
end
theorem st_ge2_i {n m : Int} {k : R → Prop} (h : k (.d (.bool (decide (m ≤ n))))) : cGe2 (.int n) (.int m) k := .inl h
theorem st_ge2_t {ns ms : List Int} {k : R → Prop} (h : k (.d (.bool (!HT.lexLt ns ms)))) : cGe2 (.tuple (ns.map .int)) (.tuple (ms.map .int)) k := .inr ⟨ns, ms, rfl, rfl, h⟩
end Hs
namespace Hs
open PySem
class Get (s : S) (i : Nat) (v : outParam SV) : Prop where e : s.getD i .no = v
class Put (s : S) (i : Nat) (v : SV) (s' : outParam S) : Prop where e : s.set i v = s'
class Pad (s : S) (n : Nat) (s' : outParam S) : Prop where e : s ++ List.replicate n .no = s'
instance getZ {v : SV} {s : S} : Get (v :: s) 0 v := ⟨rfl⟩
instance getS {v w : SV} {s : S} {i : Nat} [h : Get s i v] : Get (w :: s) (i + 1) v := ⟨h.e⟩
instance putZ {v w : SV} {s : S} : Put (w :: s) 0 v (v :: s) := ⟨rfl⟩
instance putS {v w : SV} {s s' : S} {i : Nat} [h : Put s i v s'] : Put (w :: s) (i + 1) v (w :: s') := ⟨by rw [List.set_cons_succ, h.e]⟩
instance padZ : Pad [] 0 [] := ⟨rfl⟩
instance padS {s : S} {n : Nat} [h : Pad [] n s] : Pad [] (n + 1) (.no :: s) := ⟨by rw [← h.e]; rfl⟩
instance padC {v : SV} {s s' : S} {n : Nat} [h : Pad s n s'] : Pad (v :: s) n (v :: s') := ⟨by rw [← h.e]; rfl⟩
section
variable {s' s'' : S}
variable {nx bk ct : S → Prop} {rt : R → S → Prop} {X xx : XF} {s : S} {a b c e : FE} {t u : FT} {f1 f2 : FS} {Q : R → S → Prop} {i j : Nat} {x y : D} {v : SV} {g g' : V2} {r : R} {rs : List R} {A B : Prop}
theorem st_seq (h : f1 ⟨fun s1 => f2 ⟨nx, rt, bk, ct, xx⟩ s1, rt, bk, ct, xx⟩ s) : fSeq f1 f2 ⟨nx, rt, bk, ct, xx⟩ s := h
/-- the ways through the first part meet -/
theorem st_join (P : S → Prop) (hrest : ∀ s', P s' → f2 ⟨nx, rt, bk, ct, xx⟩ s') (h : ∀ k : S → Prop, (∀ s', P s' → k s') → f1 ⟨k, rt, bk, ct, xx⟩ s) : fSeq f1 f2 ⟨nx, rt, bk, ct, xx⟩ s := h _ hrest
theorem st_asg (h : a xx s fun r s1 => putR i r s1 nx) : fAsg i a ⟨nx, rt, bk, ct, xx⟩ s := h
theorem st_next (h : nx s) : fNext ⟨nx, rt, bk, ct, xx⟩ s := h
theorem st_if (h : t xx s fun c s1 => if c = true then f1 ⟨nx, rt, bk, ct, xx⟩ s1 else f2 ⟨nx, rt, bk, ct, xx⟩ s1) : fIfS t f1 f2 ⟨nx, rt, bk, ct, xx⟩ s := h
theorem st_ret (h : a xx s rt) : fRet a ⟨nx, rt, bk, ct, xx⟩ s := h
theorem st_retN (h : rt (.d .none) s) : fRetN ⟨nx, rt, bk, ct, xx⟩ s := h
theorem st_break (h : bk s) : fBreak ⟨nx, rt, bk, ct, xx⟩ s := h
theorem st_drop (h : a xx s fun _ s1 => nx s1) : fDrop a ⟨nx, rt, bk, ct, xx⟩ s := h
theorem st_raise {n : Str} (h : xx n s) : fRaise n ⟨nx, rt, bk, ct, xx⟩ s := h
theorem st_put_d {k : S → Prop} [p : Put s i (.d x) s'] (h : k s') : putR i (.d x) s k := by rw [← p.e] at h; exact h
theorem st_put_own {k : S → Prop} [p : Put s i v s'] (h : k s') : putR i (.own v) s k := by rw [← p.e] at h; exact h
theorem st_put_top {k : S → Prop} (e : asD (s.getD j .no) = some x) (h : k ((s.set j (.d x)).set i (.d x))) : putR i (.top j) s k := by unfold putR; dsimp only; rw [e]; exact h
theorem st_put_top_l {k : S → Prop} {xs : List D} [g : Get s j (.l xs)] [p : Put s j (.d (.list xs)) s'] [p2 : Put s' i (.d (.list xs)) s''] (h : k s'') : putR i (.top j) s k :=
  st_put_top (x := .list xs) (by rw [g.e]; rfl) (by rw [p.e, p2.e]; exact h)
theorem st_put_top_ll {k : S → Prop} {xs : List (List D)} [g : Get s j (.ll xs)] [p : Put s j (.d (.list (xs.map .list))) s'] [p2 : Put s' i (.d (.list (xs.map .list))) s''] (h : k s'') : putR i (.top j) s k :=
  st_put_top (x := .list (xs.map .list)) (by rw [g.e]; rfl) (by rw [p.e, p2.e]; exact h)
theorem st_put_top_dc {k : S → Prop} {xs : List (D × D)} [g : Get s j (.dc xs)] [p : Put s j (.d (.dict xs)) s'] [p2 : Put s' i (.d (.dict xs)) s''] (h : k s'') : putR i (.top j) s k :=
  st_put_top (x := .dict xs) (by rw [g.e]; rfl) (by rw [p.e, p2.e]; exact h)
theorem st_unp {fg : FG} (h : a xx s fun r s1 => frz r s1 fun d s2 => fg d s2 nx) : fUnp fg a ⟨nx, rt, bk, ct, xx⟩ s := h
theorem st_par {fa : FA} (h : fa xx s fun rs s2 => match rs with | [r1, r2] => frz r1 s2 fun d1 s3 => frz r2 s3 fun d2 s4 => putR i (.d d1) s4 fun s5 => putR j (.d d2) s5 nx | _ => False) : fPar i j fa ⟨nx, rt, bk, ct, xx⟩ s := h
theorem st_setIx (h : a xx s fun r s1 => onL i s1 fun _ => b xx s1 fun rj s2 => match rj with
  | .d (.int k) => frz r s2 fun d s3 => onL i s3 fun xs => 0 ≤ k ∧ k.toNat < xs.length ∧ putR i (.own (.l (xs.set k.toNat d))) s3 nx
  | _ => False) : fSetIx i b a ⟨nx, rt, bk, ct, xx⟩ s := h
theorem st_onL {k : List D → Prop} {xs : List D} [e : Get s i (.l xs)] (h : k xs) : onL i s k := by unfold onL; rw [e.e]; exact h
/-- slots forgotten -/
def wipeK (s : S) (wp : List Nat) (k : S → Prop) : Prop := k (wipeS s wp)
theorem st_wipe_nil {k : S → Prop} (h : k s) : wipeK s [] k := h
theorem st_wipe_cons {k : S → Prop} {is : List Nat} [p : Put s i .no s'] (h : wipeK s' is k) : wipeK s (i :: is) k := by rw [← p.e] at h; exact h
theorem st_for {it : FI} {fg : FG} {wp : List Nat} (h : it xx s fun xs s1 => wipeK s1 wp fun s2 => fLoop fg wp f1 ⟨nx, rt, bk, ct, xx⟩ xs s2) : fFor it fg wp f1 ⟨nx, rt, bk, ct, xx⟩ s := h
theorem st_var_d [e : Get s i (.d x)] (h : Q (.d x) s) : fVar i X s Q := by unfold fVar; rw [e.e]; exact h
theorem st_var_l {xs : List D} [e : Get s i (.l xs)] (h : Q (.top i) s) : fVar i X s Q := by unfold fVar; rw [e.e]; exact h
theorem st_var_ll {xs : List (List D)} [e : Get s i (.ll xs)] (h : Q (.top i) s) : fVar i X s Q := by unfold fVar; rw [e.e]; exact h
theorem st_var_dc {xs : List (D × D)} [e : Get s i (.dc xs)] (h : Q (.top i) s) : fVar i X s Q := by unfold fVar; rw [e.e]; exact h
theorem st_C (h : Q (.d x) s) : fC x X s Q := h
theorem st_nil {k : List R → S → Prop} (h : k [] s) : fNil X s k := h
theorem st_cons {k : List R → S → Prop} {fr : FA} (h : a X s fun x s1 => fr X s1 fun xs s2 => k (x :: xs) s2) : fCons a fr X s k := h
theorem st_tup {fr : FA} (h : fr X s fun rs s1 => frzAll rs s1 fun ds s2 => Q (.d (.tuple ds)) s2) : fTup fr X s Q := h
theorem st_lst {fr : FA} (h : fr X s fun rs s1 => frzAll rs s1 fun ds s2 => Q (.own (.l ds)) s2) : fLst fr X s Q := h
theorem st_op (h : a X s fun r1 s1 => b X s1 fun r2 s2 => look s2 r1 fun d => look s2 r2 fun e => g d e fun r => Q r s2) : fOp g a b X s Q := h
theorem st_un {g1 : V1} (h : a X s fun r1 s1 => look s1 r1 fun d => g1 d fun r => Q r s1) : fUn g1 a X s Q := h
theorem st_blt {gn : VN} {fr : FA} (h : fr X s fun rs s1 => fBlt.lookAll s1 rs fun ds => gn ds fun r => Q r s1) : fBlt gn fr X s Q := h
theorem st_lookAll_nil {k : List D → Prop} (h : k []) : fBlt.lookAll s [] k := h
theorem st_lookAll_cons {k : List D → Prop} (h : look s r fun d => fBlt.lookAll s rs fun ds => k (d :: ds)) : fBlt.lookAll s (r :: rs) k := h
theorem st_andV (h : a X s fun r s1 => isB r fun c => if c = true then b X s1 Q else Q (.d (.bool false)) s1) : fAndV a b X s Q := h
theorem st_orV (h : a X s fun r s1 => isB r fun c => if c = true then Q (.d (.bool true)) s1 else b X s1 Q) : fOrV a b X s Q := h
theorem st_notV (h : a X s fun r s1 => isB r fun c => Q (.d (.bool (!c))) s1) : fNotV a X s Q := h
theorem st_ifE (h : t X s fun c s1 => if c = true then a X s1 Q else b X s1 Q) : fIfE t a b X s Q := h
theorem st_chain (h : a X s fun r1 s1 => b X s1 fun r2 s2 => look s2 r1 fun d => look s2 r2 fun e => g d e fun r => isB r fun k =>
  if k = true then c X s2 fun r3 s3 => look s3 r2 fun e' => look s3 r3 fun h => g' e' h fun z => Q z s3 else Q (.d (.bool false)) s2) : fChain g g' a b c X s Q := h
theorem st_sl {gs : D → Option Int → Option Int → (R → Prop) → Prop} {lo hi : FO} (h : a X s fun r s1 => lo X s1 fun l s2 => hi X s2 fun h s3 => look s3 r fun d => gs d l h fun z => Q z s3) : fSl gs a lo hi X s Q := h
theorem st_noPart {k : Option Int → S → Prop} (h : k none s) : fNoPart X s k := h
theorem st_part {k : Option Int → S → Prop} (h : a X s fun r s1 => match r with | .d (.int i) => k (some i) s1 | _ => False) : fPart a X s k := h
/-- what was lent comes back -/
def putK (ms : List Bool) (rs : List R) (fin s : S) (k : S → Prop) : Prop := k (putB ms rs fin s)
theorem st_putK_nil {fin : S} {k : S → Prop} (h : k s) : putK [] [] fin s k := by
  unfold putK putB; exact h
theorem st_putK_t {ms : List Bool} {fin : S} {f : SV} {k : S → Prop} [p : Put s i f s'] (h : putK ms rs fin s' k) : putK (true :: ms) (.top i :: rs) (f :: fin) s k := by
  rw [← p.e] at h; exact h
theorem st_putK_td {ms : List Bool} {fin : S} {f : SV} {k : S → Prop} (h : putK ms rs fin s k) : putK (true :: ms) (.d x :: rs) (f :: fin) s k := h
theorem st_putK_to {ms : List Bool} {fin : S} {f : SV} {k : S → Prop} (h : putK ms rs fin s k) : putK (true :: ms) (.own v :: rs) (f :: fin) s k := h
theorem st_putK_f {ms : List Bool} {fin : S} {f : SV} {k : S → Prop} (h : putK ms rs fin s k) : putK (false :: ms) (r :: rs) (f :: fin) s k := h
theorem st_call {sem : FSem} {ms : List Bool} {fr : FA} (h : fr X s fun rs s1 => bindA ms rs s1 fun svs s2 => sem svs (fun n fin => X n (putB ms rs fin s2)) fun r fin => putK ms rs fin s2 fun s3 => Q r s3) : fCall sem ms fr X s Q := h
theorem putB_none : ∀ {ms : List Bool} {rs : List R} {fin s : S}, ms.all (!·) = true → putB ms rs fin s = s
  | [], _, _, _, _ => by unfold putB; rfl
  | true :: _, _, _, _, h => by simp at h
  | false :: ms, [], _, _, _ => by unfold putB; rfl
  | false :: ms, _ :: _, [], _, _ => by unfold putB; rfl
  | false :: ms, _ :: rs, _ :: fin, s, h => by
    unfold putB
    exact putB_none (by simpa using h)
theorem st_callF {sem : FSem} {ms : List Bool} {fr : FA} (e : ms.all (!·) = true) (h : fr X s fun rs s1 => bindA ms rs s1 fun svs s2 => sem svs (fun n _ => X n s2) fun r _ => Q r s2) : fCall sem ms fr X s Q := by
  have q : ∀ (rs : List R) (s2 : S), (fun n fin => X n (putB ms rs fin s2)) = fun (n : Str) (fin : S) => X n s2 := fun rs s2 => by
    funext n fin; rw [putB_none e]
  have q2 : ∀ (rs : List R) (s2 : S), (fun r fin => Q r (putB ms rs fin s2)) = fun (r : R) (fin : S) => Q r s2 := fun rs s2 => by
    funext n fin; rw [putB_none e]
  unfold fCall
  simp only [q, q2]
  exact h
theorem st_lc {it : FI} {fg : FG} {wp : List Nat} (h : it X s fun xs s1 => xs.length ≤ sizeLine ∧ wipeK s1 wp fun s2 => fComp (fun _ _ => False) fg wp t e Q xs [] s2) : fLc it fg wp t e X s Q := h
theorem st_lm {lm : LM} {fr : FA} (h : onL i s fun _ => fr X s fun rs s1 => frzAll rs s1 fun ds s2 => onL i s2 fun xs => lm xs ds fun d xs' => putR i (.own (.l xs')) s2 fun s3 => Q (.d d) s3) : fLm i lm fr X s Q := h
variable {q : Bool → S → Prop}
theorem st_B (h : a X s fun r s1 => isB r fun c => q c s1) : fB a X s q := h
theorem st_and (h : t X s fun c s1 => if c = true then u X s1 q else q false s1) : fAnd t u X s q := h
theorem st_or (h : t X s fun c s1 => if c = true then q true s1 else u X s1 q) : fOr t u X s q := h
theorem st_not (h : t X s fun c s1 => q (!c) s1) : fNot t X s q := h
theorem st_yes (h : q true s) : fYes X s q := h
theorem st_isB {k : Bool → Prop} {z : Bool} (h : k z) : isB (.d (.bool z)) k := h
theorem st_t (h : A) : if true = true then A else B := by simpa using h
theorem st_f (h : B) : if false = true then A else B := by simpa using h
theorem st_nt (h : B) : if (!true) = true then A else B := by simpa using h
theorem st_nf (h : A) : if (!false) = true then A else B := by simpa using h
theorem st_ite {z : Bool} (h1 : z = true → A) (h2 : z = false → B) : if z = true then A else B := by
  cases z
  · simpa using h2 rfl
  · simpa using h1 rfl
theorem st_iteT {z : Bool} (e : z = true) (h : A) : if z = true then A else B := by rw [if_pos e]; exact h
theorem st_iteF {z : Bool} (e : z = false) (h : B) : if z = true then A else B := by rw [if_neg (by simp [e])]; exact h
theorem st_look_d {k : D → Prop} (h : k x) : look s (.d x) k := h
theorem st_look_own {k : D → Prop} {xs : List D} (h : k (.list xs)) : look s (.own (.l xs)) k := h
theorem st_look_own_dc {k : D → Prop} {xs : List (D × D)} (h : k (.dict xs)) : look s (.own (.dc xs)) k := h
theorem st_look_top {k : D → Prop} {xs : List D} [e : Get s i (.l xs)] (h : k (.list xs)) : look s (.top i) k := by
  unfold look
  rw [show viewR s (.top i) = some (.list xs) by show viewS (s.getD i .no) = _; rw [e.e]; rfl]; exact h
theorem st_look_top_d {k : D → Prop} [e : Get s i (.d x)] (h : k x) : look s (.top i) k := by
  unfold look viewR
  dsimp only
  rw [e.e]
  exact h
theorem st_look_top_dc {k : D → Prop} {xs : List (D × D)} [e : Get s i (.dc xs)] (h : k (.dict xs)) : look s (.top i) k := by
  unfold look
  rw [show viewR s (.top i) = some (.dict xs) by show viewS (s.getD i .no) = _; rw [e.e]; rfl]; exact h
theorem st_frz_d {k : D → S → Prop} (h : k x s) : frz (.d x) s k := h
theorem st_frz_own {k : D → S → Prop} {xs : List D} (h : k (.list xs) s) : frz (.own (.l xs)) s k := h
theorem st_frz_own_ll {k : D → S → Prop} {xs : List (List D)} (h : k (.list (xs.map .list)) s) : frz (.own (.ll xs)) s k := h
theorem st_frz_own_dc {k : D → S → Prop} {xs : List (D × D)} (h : k (.dict xs) s) : frz (.own (.dc xs)) s k := h
theorem frz_top' {k : D → S → Prop} (e : asD (s.getD i .no) = some x) (h : k x (s.set i (.d x))) : frz (.top i) s k := by unfold frz; dsimp only; rw [e]; exact h
theorem st_frz_top {k : D → S → Prop} {xs : List D} [e : Get s i (.l xs)] [p : Put s i (.d (.list xs)) s'] (h : k (.list xs) s') : frz (.top i) s k := frz_top' (x := .list xs) (by rw [e.e]; rfl) (by rw [p.e]; exact h)
theorem st_frz_top_ll {k : D → S → Prop} {xs : List (List D)} [e : Get s i (.ll xs)] [p : Put s i (.d (.list (xs.map .list))) s'] (h : k (.list (xs.map .list)) s') : frz (.top i) s k := frz_top' (x := .list (xs.map .list)) (by rw [e.e]; rfl) (by rw [p.e]; exact h)
theorem st_frz_top_dc {k : D → S → Prop} {xs : List (D × D)} [e : Get s i (.dc xs)] [p : Put s i (.d (.dict xs)) s'] (h : k (.dict xs) s') : frz (.top i) s k := frz_top' (x := .dict xs) (by rw [e.e]; rfl) (by rw [p.e]; exact h)
theorem st_frzAll_nil {k : List D → S → Prop} (h : k [] s) : frzAll [] s k := h
theorem st_frzAll_cons {k : List D → S → Prop} (h : frz r s fun x s1 => frzAll rs s1 fun xs s2 => k (x :: xs) s2) : frzAll (r :: rs) s k := h
variable {ms : List Bool} {kb : List SV → S → Prop}
theorem st_bind_nil (h : kb [] s) : bindA [] [] s kb := h
theorem st_bind_f (h : frz r s fun x s1 => bindA ms rs s1 fun svs s2 => kb (.d x :: svs) s2) : bindA (false :: ms) (r :: rs) s kb := h
theorem st_bind_tt [g : Get s i v] [p : Put s i .no s'] (h : bindA ms rs s' fun svs s2 => kb (v :: svs) s2) : bindA (true :: ms) (.top i :: rs) s kb := by
  rw [← p.e, ← g.e] at h; exact h
theorem st_bind_td (h : bindA ms rs s fun svs s2 => kb (.d x :: svs) s2) : bindA (true :: ms) (.d x :: rs) s kb := h
theorem st_bind_to (h : bindA ms rs s fun svs s2 => kb (v :: svs) s2) : bindA (true :: ms) (.own v :: rs) s kb := h
theorem st_out_d {k : R → S → Prop} (h : k (.d x) s) : outR (.d x) s k := h
theorem st_out_own {k : R → S → Prop} (h : k (.own v) s) : outR (.own v) s k := h
theorem st_out_top {k : R → S → Prop} [g : Get s i v] [p : Put s i .no s'] (h : k (.own v) s') : outR (.top i) s k := by
  rw [← p.e, ← g.e] at h; exact h
variable {kl : List D → S → Prop} {fr : FA} {ds : List D} {n m : Int}
theorem st_seqI (h : a X s fun r s1 => frz r s1 fun d s2 => match d with | .list xs => kl xs s2 | .tuple xs => kl xs s2 | _ => False) : iSeq a X s kl := h
theorem st_range1 (h : fr X s fun rs s1 => match rs with | [.d (.int j)] => lim62 j ∧ kl (rangeD 0 j.toNat) s1 | _ => False) : iRange1 fr X s kl := h
theorem st_range2 (h : fr X s fun rs s2 => match rs with | [.d (.int i), .d (.int j)] => lim62 i ∧ lim62 j ∧ kl (rangeD i (j - i).toNat) s2 | _ => False) : iRange2 fr X s kl := h
theorem st_enum (h : fr X s fun rs s1 => frzAll rs s1 fun ds s2 => match ds with
  | [.list xs] => kl (enumD xs) s2
  | [.tuple xs] => kl (enumD xs) s2
  | _ => False) : iEnum fr X s kl := h
theorem st_zip (h : fr X s fun rs s1 => frzAll rs s1 fun ds s4 => match ds with
  | [.list xs, .list ys] => kl (zipD xs ys) s4
  | [.tuple xs, .list ys] => kl (zipD xs ys) s4
  | [.list xs, .tuple ys] => kl (zipD xs ys) s4
  | [.tuple xs, .tuple ys] => kl (zipD xs ys) s4
  | _ => False) : iZip fr X s kl := h
theorem st_nm {k : S → Prop} [p : Put s i (.d x) s'] (h : k s') : gNm i x s k := by rw [← p.e] at h; exact h
/-- a def's body begins -/
theorem st_sem {np nl n : Nat} {svs : S} {f : FS} (e : nl = n + np) [p : Pad svs n s] (h : f ⟨fun s => Q (.d .none) (s.take np), fun r s => outR r s fun r' s' => Q r' (s'.take np), fun _ => False, fun _ => False, fun n s => X n (s.take np)⟩ s) : semOf np nl f svs X Q := by
  subst e
  rw [← p.e] at h
  unfold semOf
  rw [Nat.add_sub_cancel]
  exact h
theorem st_tp {k : S → Prop} {fgs : List FG} (h : gTp.gTps fgs ds s k) : gTp fgs (.tuple ds) s k := h
theorem st_tps_nil {k : S → Prop} (h : k s) : gTp.gTps [] [] s k := h
theorem st_tps_cons {k : S → Prop} {fg : FG} {fgs : List FG} (h : fg x s fun s1 => gTp.gTps fgs ds s1 k) : gTp.gTps (fg :: fgs) (x :: ds) s k := h
variable {k : R → Prop} {xs ys : List D}
theorem st_add_i (h : k (.d (.int (n + m)))) : opAdd (.int n) (.int m) k := h
theorem st_add_l (z : xs.length + ys.length ≤ sizeLine) (h : k (.own (.l (xs ++ ys)))) : opAdd (.list xs) (.list ys) k := ⟨z, h⟩
theorem st_sub_i (h : k (.d (.int (n - m)))) : opSub (.int n) (.int m) k := h
theorem st_mul_i (z : okM n m) (h : k (.d (.int (n * m)))) : opMul (.int n) (.int m) k := ⟨z, h⟩
theorem st_fdiv_i (z : okD m) (h : k (.d (.int (n / m)))) : opFdiv (.int n) (.int m) k := ⟨z, h⟩
theorem st_mod_i (z : 0 < m) (h : k (.d (.int (n % m)))) : opMod (.int n) (.int m) k := ⟨z, h⟩
instance {j : Int} : Decidable (okD j) := by unfold okD; infer_instance
instance {i j : Int} : Decidable (okM i j) := by unfold okM; infer_instance
instance {i : Int} : Decidable (lim62 i) := by unfold lim62; infer_instance
theorem lg_le {n k : Nat} (h : n < 2 ^ k) : n.log2 ≤ k := by
  by_cases h0 : n = 0
  · subst h0; simp
  · exact Nat.le_of_lt ((Nat.log2_lt h0).mpr h)
/-- a bound of both factors -/
theorem okM_of (p q : Nat) {i j : Int} (h1 : i.natAbs < 2 ^ p) (h2 : j.natAbs < 2 ^ q) (h : p + q < 1000000 := by decide) : okM i j := by
  have := lg_le h1
  have := lg_le h2
  unfold okM
  omega
theorem okD_of (q : Nat) {j : Int} (h0 : 0 < j) (h2 : j.natAbs < 2 ^ q) (h : q < 9000 := by decide) : okD j := ⟨h0, by have := lg_le h2; omega⟩
theorem st_neg_i (h : k (.d (.int (-n)))) : uNeg (.int n) k := h
theorem st_eq_i (h : k (.d (.bool (decide (n = m))))) : cEq (.int n) (.int m) k := .inr ⟨rfl, rfl, h⟩
theorem st_ne_i (h : k (.d (.bool (!decide (n = m))))) : cNe (.int n) (.int m) k := .inr ⟨rfl, rfl, h⟩
theorem st_eq_b {p q : Bool} (h : k (.d (.bool (p == q)))) : cEq (.bool p) (.bool q) k := .inr ⟨rfl, rfl, by cases p <;> cases q <;> exact h⟩
theorem st_ne_b {p q : Bool} (h : k (.d (.bool (!(p == q))))) : cNe (.bool p) (.bool q) k := .inr ⟨rfl, rfl, by cases p <;> cases q <;> exact h⟩
theorem st_ne (z1 : SeqAt.shaped (unlit x) = true) (z2 : SeqAt.shaped (unlit y) = true) (h : k (.d (.bool (!PyData.eqv (unlit x) (unlit y))))) : cNe x y k := .inr ⟨z1, z2, h⟩
theorem st_eq_str {p q : Str} (h : k (.d (.bool (decide (p = q))))) : cEq (.str p) (.str q) k := .inl ⟨p, q, rfl, rfl, h⟩
theorem st_ne_str {p q : Str} (h : k (.d (.bool (!decide (p = q))))) : cNe (.str p) (.str q) k := .inl ⟨p, q, rfl, rfl, h⟩
theorem st_lt_i (h : k (.d (.bool (decide (n < m))))) : cLt (.int n) (.int m) k := h
theorem st_le_i (h : k (.d (.bool (decide (n ≤ m))))) : cLe (.int n) (.int m) k := h
theorem st_gt_i (h : k (.d (.bool (decide (m < n))))) : cGt (.int n) (.int m) k := h
theorem st_ge_i (h : k (.d (.bool (decide (m ≤ n))))) : cGe (.int n) (.int m) k := h
theorem st_is_n (h : k (.d (.bool (isNone x)))) : cIs x .none k := by cases x <;> exact h
theorem st_isNot_n (h : k (.d (.bool (!isNone x)))) : cIsNot x .none k := by cases x <;> exact h
theorem st_is_b {p q : Bool} (h : k (.d (.bool (decide (p = q))))) : cIs (.bool p) (.bool q) k := h
theorem st_isNot_b {p q : Bool} (h : k (.d (.bool (!decide (p = q))))) : cIsNot (.bool p) (.bool q) k := h
theorem st_ix_l (e : L2.atI xs n = some x) (h : k (.d x)) : ixD (.list xs) (.int n) k := by
  show (match L2.atI xs n with | some x => k (.d x) | none => False)
  rw [e]; exact h
theorem st_ix_t (e : L2.atI xs n = some x) (h : k (.d x)) : ixD (.tuple xs) (.int n) k := by
  show (match L2.atI xs n with | some x => k (.d x) | none => False)
  rw [e]; exact h
theorem st_ix_lit {ns : List Int} {z : Int} (e : L2.atI ns n = some z) (h : k (.d (.int z))) : ixD (litD ns) (.int n) k := by
  show (match L2.atI (ns.map PyData.int) n with | some x => k (.d x) | none => False)
  rw [show L2.atI (ns.map PyData.int) n = some (.int z) by
    unfold L2.atI at e ⊢
    rw [List.length_map]
    cases q : L2.ixN ns.length n with
    | none => rw [q] at e; cases e
    | some j =>
      rw [q] at e
      show (ns.map PyData.int)[j]? = _
      rw [List.getElem?_map, show ns[j]? = some z from e]; rfl]
  exact h
theorem st_len_l (h : k (.d (.int (xs.length : Nat)))) : bLen [.list xs] k := h
theorem st_len_t (h : k (.d (.int (xs.length : Nat)))) : bLen [.tuple xs] k := h
theorem st_len_lit {ns : List Int} (h : k (.d (.int (ns.length : Nat)))) : bLen [litD ns] k := by
  show k (.d (.int ((ns.map PyData.int).length : Nat)))
  rw [List.length_map]; exact h
theorem st_abs (h : k (.d (.int (n.natAbs : Nat)))) : bAbs [.int n] k := by
  show k (.d (.int (if n < 0 then -n else n)))
  rw [show (if n < 0 then -n else n) = ((n.natAbs : Nat) : Int) by split <;> omega]
  exact h
theorem st_max2 (h : k (.d (.int (max n m)))) : bMax2 [.int n, .int m] k := by
  show k (.d (.int (if m > n then m else n)))
  rw [show (if m > n then m else n) = max n m by split <;> omega]
  exact h
theorem st_min2 (h : k (.d (.int (min n m)))) : bMin2 [.int n, .int m] k := by
  show k (.d (.int (if m < n then m else n)))
  rw [show (if m < n then m else n) = min n m by split <;> omega]
  exact h
theorem st_int_i (h : k (.d (.int n))) : bInt [.int n] k := h
theorem st_int_b {p : Bool} (h : k (.d (.int (if p then 1 else 0)))) : bInt [.bool p] k := h
theorem st_tuple_l (h : k (.d (.tuple xs))) : bTuple [.list xs] k := h
theorem st_tuple_t (h : k (.d (.tuple xs))) : bTuple [.tuple xs] k := h
theorem st_list_l (h : k (.own (.l xs))) : bList [.list xs] k := h
theorem st_list_t (h : k (.own (.l xs))) : bList [.tuple xs] k := h
theorem boolsOf_map' : ∀ bs : List Bool, boolsOf (bs.map PyData.bool) = some bs
  | [] => rfl
  | b :: bs => by show (boolsOf (bs.map PyData.bool)).map (b :: ·) = _; rw [boolsOf_map' bs]; rfl
theorem st_all {bs : List Bool} (e : xs = bs.map PyData.bool) (h : k (.d (.bool (bs.all id)))) : bAll [.list xs] k := by
  show (match boolsOf xs with | some bs => k (.d (.bool (bs.all id))) | none => False)
  rw [e, boolsOf_map']; exact h
theorem st_any {bs : List Bool} (e : xs = bs.map PyData.bool) (h : k (.d (.bool (bs.any id)))) : bAny [.list xs] k := by
  show (match boolsOf xs with | some bs => k (.d (.bool (bs.any id))) | none => False)
  rw [e, boolsOf_map']; exact h
theorem st_isT {T : String} (e : isLit x = false) (h : k (.d (.bool (isTy T x)))) : bIs T x k := ⟨e, h⟩
theorem st_iteND {p : Prop} [Decidable p] (e : p) (h : B) : if (!decide p) = true then A else B := by rw [if_neg (by simp [e])]; exact h
theorem st_iteNF {p : Prop} [Decidable p] (e : ¬ p) (h : A) : if (!decide p) = true then A else B := by rw [if_pos (by simp [e])]; exact h
theorem st_iteLen {xs : List D} {m : Int} (e : ((xs.length : Nat) : Int) = m) (h : A) : if decide (((xs.length : Nat) : Int) = m) = true then A else B := by rw [if_pos (by simp [e])]; exact h
theorem st_iteNLen {xs : List D} {m : Int} (e : ((xs.length : Nat) : Int) = m) (h : B) : if (!decide (((xs.length : Nat) : Int) = m)) = true then A else B := by rw [if_neg (by simp [e])]; exact h
theorem st_iteBB {z : Bool} (h : B) : if (!(z == z)) = true then A else B := by rw [if_neg (by simp)]; exact h
theorem st_isTT {T : String} (e : isTy T x = true) (h : A) : if isTy T x = true then A else B := by rw [if_pos e]; exact h
theorem st_isTF {T : String} (e : isTy T x = false) (h : B) : if isTy T x = true then A else B := by rw [if_neg (by simp [e])]; exact h
theorem st_isNT {T : String} (e : isTy T x = true) (h : B) : if (!isTy T x) = true then A else B := by rw [if_neg (by simp [e])]; exact h
theorem st_isNF {T : String} (e : isTy T x = false) (h : A) : if (!isTy T x) = true then A else B := by rw [if_pos (by simp [e])]; exact h
theorem st_append {kk : D → List D → Prop} (z : xs.length < sizeLine) (h : kk .none (xs ++ [x])) : mAppend xs [x] kk := ⟨z, h⟩
theorem st_sl_l {lo hi : Option Int} (h : k (.own (.l (slD.cutL xs lo hi)))) : slD (.list xs) lo hi k := h
theorem st_sl_t {lo hi : Option Int} (h : k (.d (.tuple (slD.cutL xs lo hi)))) : slD (.tuple xs) lo hi k := h
theorem rangeD_cons {lo : Int} {n : Nat} : rangeD lo (n + 1) = .int lo :: rangeD (lo + 1) n := by
  unfold rangeD
  rw [List.range_succ_eq_map, List.map_cons, List.map_map]
  simp only [Int.natCast_zero, Int.add_zero, List.cons.injEq, true_and]
  apply List.map_congr_left
  intro k _
  simp only [Function.comp]
  congr 1
  omega
theorem loop_range {fg : FG} {wp : List Nat} (I : Int → S → Prop) {lo hi : Int} (hend : ∀ s, I (max lo hi) s → nx s)
    (hstep : ∀ i s (k : S → Prop), lo ≤ i → i < hi → I i s → (∀ s', I (i + 1) s' → k s') → fg (.int i) s fun s1 => f1 ⟨fun s2 => k (wipeS s2 wp), rt, fun s2 => wipeK s2 wp nx, fun s2 => k (wipeS s2 wp), xx⟩ s1)
    (h0 : I lo s) : fLoop fg wp f1 ⟨nx, rt, bk, ct, xx⟩ (rangeD lo (hi - lo).toNat) s := by
  have go : ∀ (n : Nat) (i : Int) (s : S), lo ≤ i → (hi - i).toNat = n → (i ≤ hi ∨ i = lo) → I i s → fLoop fg wp f1 ⟨nx, rt, bk, ct, xx⟩ (rangeD i n) s := by
    intro n
    induction n with
    | zero =>
      intro i s h1 h2 h3 h4
      refine hend s ?_
      rw [show max lo hi = i by omega]
      exact h4
    | succ n ih =>
      intro i s h1 h2 h3 h4
      rw [rangeD_cons]
      exact hstep i s (fLoop fg wp f1 ⟨nx, rt, bk, ct, xx⟩ (rangeD (i + 1) n)) h1 (by omega) h4 fun s' h' => ih (i + 1) s' (by omega) (by omega) (.inl (by omega)) h'
  exact go _ lo s (Int.le_refl _) rfl (.inr rfl) h0
theorem loop_range1 {fg : FG} {wp : List Nat} (I : Int → S → Prop) {hi : Int} (hend : ∀ s, I (max 0 hi) s → nx s)
    (hstep : ∀ i s (k : S → Prop), 0 ≤ i → i < hi → I i s → (∀ s', I (i + 1) s' → k s') → fg (.int i) s fun s1 => f1 ⟨fun s2 => k (wipeS s2 wp), rt, fun s2 => wipeK s2 wp nx, fun s2 => k (wipeS s2 wp), xx⟩ s1)
    (h0 : I 0 s) : fLoop fg wp f1 ⟨nx, rt, bk, ct, xx⟩ (rangeD 0 hi.toNat) s := by
  have q := loop_range (lo := 0) (hi := hi) (bk := bk) (ct := ct) I hend hstep h0
  rw [Int.sub_zero] at q
  exact q
/-- without a test -/
theorem comp_all {fg : FG} {wp : List Nat} (f : D → D)
    : ∀ (xs acc : List D), (∀ x, x ∈ xs → ∀ (kT : D → S → Prop), kT (f x) s → fg x s fun s1 => e X s1 fun r s3 => frz r s3 fun d s4 => kT d (wipeS s4 wp)) →
      Q (.own (.l (acc ++ xs.map f))) s → fComp X fg wp fYes e Q xs acc s
  | [], acc, _, h => by
    have h : Q (.own (.l (acc ++ []))) s := h
    rw [List.append_nil] at h
    exact h
  | x :: xs, acc, hs, h => by
    exact hs x List.mem_cons_self (fun d s4 => fComp X fg wp fYes e Q xs (acc ++ [d]) s4) (comp_all f xs _ (fun x hx => hs x (List.mem_cons_of_mem _ hx)) (by simpa using h))
end
end Hs
namespace Hs
open PySem
section
variable {s' s'' : S}
variable {nx bk ct : S → Prop} {rt : R → S → Prop} {X xx : XF} {s : S} {a b c e : FE} {t u : FT} {f1 f2 : FS} {Q : R → S → Prop} {i j : Nat} {x y : D} {v : SV} {g g' : V2} {r : R} {rs : List R} {A B : Prop}
class StepTo (P : Prop) (P' : outParam Prop) : Prop where go : P' → P
theorem stepTo {P P' : Prop} [i : StepTo P P'] (h : P') : P := i.go h
instance go_st_seq : StepTo (fSeq f1 f2 ⟨nx, rt, bk, ct, xx⟩ s) (f1 ⟨fun s1 => f2 ⟨nx, rt, bk, ct, xx⟩ s1, rt, bk, ct, xx⟩ s) := ⟨fun h => st_seq h⟩
instance go_st_asg : StepTo (fAsg i a ⟨nx, rt, bk, ct, xx⟩ s) (a xx s fun r s1 => putR i r s1 nx) := ⟨fun h => st_asg h⟩
instance go_st_next : StepTo (fNext ⟨nx, rt, bk, ct, xx⟩ s) (nx s) := ⟨fun h => st_next h⟩
instance go_st_if : StepTo (fIfS t f1 f2 ⟨nx, rt, bk, ct, xx⟩ s) (t xx s fun c s1 => if c = true then f1 ⟨nx, rt, bk, ct, xx⟩ s1 else f2 ⟨nx, rt, bk, ct, xx⟩ s1) := ⟨fun h => st_if h⟩
instance go_st_ret : StepTo (fRet a ⟨nx, rt, bk, ct, xx⟩ s) (a xx s rt) := ⟨fun h => st_ret h⟩
instance go_st_retN : StepTo (fRetN ⟨nx, rt, bk, ct, xx⟩ s) (rt (.d .none) s) := ⟨fun h => st_retN h⟩
instance go_st_break : StepTo (fBreak ⟨nx, rt, bk, ct, xx⟩ s) (bk s) := ⟨fun h => st_break h⟩
instance go_st_drop : StepTo (fDrop a ⟨nx, rt, bk, ct, xx⟩ s) (a xx s fun _ s1 => nx s1) := ⟨fun h => st_drop h⟩
instance go_st_raise {n : Str} : StepTo (fRaise n ⟨nx, rt, bk, ct, xx⟩ s) (xx n s) := ⟨fun h => st_raise h⟩
instance go_st_put_d {k : S → Prop} [p : Put s i (.d x) s'] : StepTo (putR i (.d x) s k) (k s') := ⟨fun h => st_put_d h⟩
instance go_st_put_own {k : S → Prop} [p : Put s i v s'] : StepTo (putR i (.own v) s k) (k s') := ⟨fun h => st_put_own h⟩
instance go_st_put_top_l {k : S → Prop} {xs : List D} [g : Get s j (.l xs)] [p : Put s j (.d (.list xs)) s'] [p2 : Put s' i (.d (.list xs)) s''] : StepTo (putR i (.top j) s k) (k s'') := ⟨fun h => st_put_top_l h⟩
instance go_st_put_top_ll {k : S → Prop} {xs : List (List D)} [g : Get s j (.ll xs)] [p : Put s j (.d (.list (xs.map .list))) s'] [p2 : Put s' i (.d (.list (xs.map .list))) s''] : StepTo (putR i (.top j) s k) (k s'') := ⟨fun h => st_put_top_ll h⟩
instance go_st_put_top_dc {k : S → Prop} {xs : List (D × D)} [g : Get s j (.dc xs)] [p : Put s j (.d (.dict xs)) s'] [p2 : Put s' i (.d (.dict xs)) s''] : StepTo (putR i (.top j) s k) (k s'') := ⟨fun h => st_put_top_dc h⟩
instance go_st_unp {fg : FG} : StepTo (fUnp fg a ⟨nx, rt, bk, ct, xx⟩ s) (a xx s fun r s1 => frz r s1 fun d s2 => fg d s2 nx) := ⟨fun h => st_unp h⟩
instance go_st_par {fa : FA} : StepTo (fPar i j fa ⟨nx, rt, bk, ct, xx⟩ s) (fa xx s fun rs s2 => match rs with | [r1, r2] => frz r1 s2 fun d1 s3 => frz r2 s3 fun d2 s4 => putR i (.d d1) s4 fun s5 => putR j (.d d2) s5 nx | _ => False) := ⟨fun h => st_par h⟩
instance go_st_setIx : StepTo (fSetIx i b a ⟨nx, rt, bk, ct, xx⟩ s) (a xx s fun r s1 => onL i s1 fun _ => b xx s1 fun rj s2 => match rj with
  | .d (.int k) => frz r s2 fun d s3 => onL i s3 fun xs => 0 ≤ k ∧ k.toNat < xs.length ∧ putR i (.own (.l (xs.set k.toNat d))) s3 nx
  | _ => False) := ⟨fun h => st_setIx h⟩
instance go_st_onL {k : List D → Prop} {xs : List D} [e : Get s i (.l xs)] : StepTo (onL i s k) (k xs) := ⟨fun h => st_onL h⟩
instance go_st_wipe_nil {k : S → Prop} : StepTo (wipeK s [] k) (k s) := ⟨fun h => st_wipe_nil h⟩
instance go_st_wipe_cons {k : S → Prop} {is : List Nat} [p : Put s i .no s'] : StepTo (wipeK s (i :: is) k) (wipeK s' is k) := ⟨fun h => st_wipe_cons h⟩
instance go_st_for {it : FI} {fg : FG} {wp : List Nat} : StepTo (fFor it fg wp f1 ⟨nx, rt, bk, ct, xx⟩ s) (it xx s fun xs s1 => wipeK s1 wp fun s2 => fLoop fg wp f1 ⟨nx, rt, bk, ct, xx⟩ xs s2) := ⟨fun h => st_for h⟩
instance go_st_var_d [e : Get s i (.d x)] : StepTo (fVar i X s Q) (Q (.d x) s) := ⟨fun h => st_var_d h⟩
instance go_st_var_l {xs : List D} [e : Get s i (.l xs)] : StepTo (fVar i X s Q) (Q (.top i) s) := ⟨fun h => st_var_l h⟩
instance go_st_var_ll {xs : List (List D)} [e : Get s i (.ll xs)] : StepTo (fVar i X s Q) (Q (.top i) s) := ⟨fun h => st_var_ll h⟩
instance go_st_var_dc {xs : List (D × D)} [e : Get s i (.dc xs)] : StepTo (fVar i X s Q) (Q (.top i) s) := ⟨fun h => st_var_dc h⟩
instance go_st_C : StepTo (fC x X s Q) (Q (.d x) s) := ⟨fun h => st_C h⟩
instance go_st_nil {k : List R → S → Prop} : StepTo (fNil X s k) (k [] s) := ⟨fun h => st_nil h⟩
instance go_st_cons {k : List R → S → Prop} {fr : FA} : StepTo (fCons a fr X s k) (a X s fun x s1 => fr X s1 fun xs s2 => k (x :: xs) s2) := ⟨fun h => st_cons h⟩
instance go_st_tup {fr : FA} : StepTo (fTup fr X s Q) (fr X s fun rs s1 => frzAll rs s1 fun ds s2 => Q (.d (.tuple ds)) s2) := ⟨fun h => st_tup h⟩
instance go_st_lst {fr : FA} : StepTo (fLst fr X s Q) (fr X s fun rs s1 => frzAll rs s1 fun ds s2 => Q (.own (.l ds)) s2) := ⟨fun h => st_lst h⟩
instance go_st_op : StepTo (fOp g a b X s Q) (a X s fun r1 s1 => b X s1 fun r2 s2 => look s2 r1 fun d => look s2 r2 fun e => g d e fun r => Q r s2) := ⟨fun h => st_op h⟩
instance go_st_un {g1 : V1} : StepTo (fUn g1 a X s Q) (a X s fun r1 s1 => look s1 r1 fun d => g1 d fun r => Q r s1) := ⟨fun h => st_un h⟩
instance go_st_blt {gn : VN} {fr : FA} : StepTo (fBlt gn fr X s Q) (fr X s fun rs s1 => fBlt.lookAll s1 rs fun ds => gn ds fun r => Q r s1) := ⟨fun h => st_blt h⟩
instance go_st_lookAll_nil {k : List D → Prop} : StepTo (fBlt.lookAll s [] k) (k []) := ⟨fun h => st_lookAll_nil h⟩
instance go_st_lookAll_cons {k : List D → Prop} : StepTo (fBlt.lookAll s (r :: rs) k) (look s r fun d => fBlt.lookAll s rs fun ds => k (d :: ds)) := ⟨fun h => st_lookAll_cons h⟩
instance go_st_andV : StepTo (fAndV a b X s Q) (a X s fun r s1 => isB r fun c => if c = true then b X s1 Q else Q (.d (.bool false)) s1) := ⟨fun h => st_andV h⟩
instance go_st_orV : StepTo (fOrV a b X s Q) (a X s fun r s1 => isB r fun c => if c = true then Q (.d (.bool true)) s1 else b X s1 Q) := ⟨fun h => st_orV h⟩
instance go_st_notV : StepTo (fNotV a X s Q) (a X s fun r s1 => isB r fun c => Q (.d (.bool (!c))) s1) := ⟨fun h => st_notV h⟩
instance go_st_ifE : StepTo (fIfE t a b X s Q) (t X s fun c s1 => if c = true then a X s1 Q else b X s1 Q) := ⟨fun h => st_ifE h⟩
instance go_st_chain : StepTo (fChain g g' a b c X s Q) (a X s fun r1 s1 => b X s1 fun r2 s2 => look s2 r1 fun d => look s2 r2 fun e => g d e fun r => isB r fun k =>
  if k = true then c X s2 fun r3 s3 => look s3 r2 fun e' => look s3 r3 fun h => g' e' h fun z => Q z s3 else Q (.d (.bool false)) s2) := ⟨fun h => st_chain h⟩
instance go_st_sl {gs : D → Option Int → Option Int → (R → Prop) → Prop} {lo hi : FO} : StepTo (fSl gs a lo hi X s Q) (a X s fun r s1 => lo X s1 fun l s2 => hi X s2 fun h s3 => look s3 r fun d => gs d l h fun z => Q z s3) := ⟨fun h => st_sl h⟩
instance go_st_noPart {k : Option Int → S → Prop} : StepTo (fNoPart X s k) (k none s) := ⟨fun h => st_noPart h⟩
instance go_st_part {k : Option Int → S → Prop} : StepTo (fPart a X s k) (a X s fun r s1 => match r with | .d (.int i) => k (some i) s1 | _ => False) := ⟨fun h => st_part h⟩
instance go_st_putK_nil {fin : S} {k : S → Prop} : StepTo (putK [] [] fin s k) (k s) := ⟨fun h => st_putK_nil h⟩
instance go_st_putK_t {ms : List Bool} {fin : S} {f : SV} {k : S → Prop} [p : Put s i f s'] : StepTo (putK (true :: ms) (.top i :: rs) (f :: fin) s k) (putK ms rs fin s' k) := ⟨fun h => st_putK_t h⟩
instance go_st_putK_td {ms : List Bool} {fin : S} {f : SV} {k : S → Prop} : StepTo (putK (true :: ms) (.d x :: rs) (f :: fin) s k) (putK ms rs fin s k) := ⟨fun h => st_putK_td h⟩
instance go_st_putK_to {ms : List Bool} {fin : S} {f : SV} {k : S → Prop} : StepTo (putK (true :: ms) (.own v :: rs) (f :: fin) s k) (putK ms rs fin s k) := ⟨fun h => st_putK_to h⟩
instance go_st_putK_f {ms : List Bool} {fin : S} {f : SV} {k : S → Prop} : StepTo (putK (false :: ms) (r :: rs) (f :: fin) s k) (putK ms rs fin s k) := ⟨fun h => st_putK_f h⟩
instance go_st_lc {it : FI} {fg : FG} {wp : List Nat} : StepTo (fLc it fg wp t e X s Q) (it X s fun xs s1 => xs.length ≤ sizeLine ∧ wipeK s1 wp fun s2 => fComp (fun _ _ => False) fg wp t e Q xs [] s2) := ⟨fun h => st_lc h⟩
instance go_st_lm {lm : LM} {fr : FA} : StepTo (fLm i lm fr X s Q) (onL i s fun _ => fr X s fun rs s1 => frzAll rs s1 fun ds s2 => onL i s2 fun xs => lm xs ds fun d xs' => putR i (.own (.l xs')) s2 fun s3 => Q (.d d) s3) := ⟨fun h => st_lm h⟩
variable {q : Bool → S → Prop}
instance go_st_B : StepTo (fB a X s q) (a X s fun r s1 => isB r fun c => q c s1) := ⟨fun h => st_B h⟩
instance go_st_and : StepTo (fAnd t u X s q) (t X s fun c s1 => if c = true then u X s1 q else q false s1) := ⟨fun h => st_and h⟩
instance go_st_or : StepTo (fOr t u X s q) (t X s fun c s1 => if c = true then q true s1 else u X s1 q) := ⟨fun h => st_or h⟩
instance go_st_not : StepTo (fNot t X s q) (t X s fun c s1 => q (!c) s1) := ⟨fun h => st_not h⟩
instance go_st_yes : StepTo (fYes X s q) (q true s) := ⟨fun h => st_yes h⟩
instance go_st_isB {k : Bool → Prop} {z : Bool} : StepTo (isB (.d (.bool z)) k) (k z) := ⟨fun h => st_isB h⟩
instance go_st_t : StepTo (if true = true then A else B) (A) := ⟨fun h => st_t h⟩
instance go_st_f : StepTo (if false = true then A else B) (B) := ⟨fun h => st_f h⟩
instance go_st_nt : StepTo (if (!true) = true then A else B) (B) := ⟨fun h => st_nt h⟩
instance go_st_nf : StepTo (if (!false) = true then A else B) (A) := ⟨fun h => st_nf h⟩
instance go_st_look_d {k : D → Prop} : StepTo (look s (.d x) k) (k x) := ⟨fun h => st_look_d h⟩
instance go_st_look_own {k : D → Prop} {xs : List D} : StepTo (look s (.own (.l xs)) k) (k (.list xs)) := ⟨fun h => st_look_own h⟩
instance go_st_look_own_dc {k : D → Prop} {xs : List (D × D)} : StepTo (look s (.own (.dc xs)) k) (k (.dict xs)) := ⟨fun h => st_look_own_dc h⟩
instance go_st_look_top {k : D → Prop} {xs : List D} [e : Get s i (.l xs)] : StepTo (look s (.top i) k) (k (.list xs)) := ⟨fun h => st_look_top h⟩
instance go_st_look_top_d {k : D → Prop} [e : Get s i (.d x)] : StepTo (look s (.top i) k) (k x) := ⟨fun h => st_look_top_d h⟩
instance go_st_look_top_dc {k : D → Prop} {xs : List (D × D)} [e : Get s i (.dc xs)] : StepTo (look s (.top i) k) (k (.dict xs)) := ⟨fun h => st_look_top_dc h⟩
instance go_st_frz_d {k : D → S → Prop} : StepTo (frz (.d x) s k) (k x s) := ⟨fun h => st_frz_d h⟩
instance go_st_frz_own {k : D → S → Prop} {xs : List D} : StepTo (frz (.own (.l xs)) s k) (k (.list xs) s) := ⟨fun h => st_frz_own h⟩
instance go_st_frz_own_ll {k : D → S → Prop} {xs : List (List D)} : StepTo (frz (.own (.ll xs)) s k) (k (.list (xs.map .list)) s) := ⟨fun h => st_frz_own_ll h⟩
instance go_st_frz_own_dc {k : D → S → Prop} {xs : List (D × D)} : StepTo (frz (.own (.dc xs)) s k) (k (.dict xs) s) := ⟨fun h => st_frz_own_dc h⟩
instance go_st_frz_top {k : D → S → Prop} {xs : List D} [e : Get s i (.l xs)] [p : Put s i (.d (.list xs)) s'] : StepTo (frz (.top i) s k) (k (.list xs) s') := ⟨fun h => st_frz_top h⟩
instance go_st_frz_top_ll {k : D → S → Prop} {xs : List (List D)} [e : Get s i (.ll xs)] [p : Put s i (.d (.list (xs.map .list))) s'] : StepTo (frz (.top i) s k) (k (.list (xs.map .list)) s') := ⟨fun h => st_frz_top_ll h⟩
instance go_st_frz_top_dc {k : D → S → Prop} {xs : List (D × D)} [e : Get s i (.dc xs)] [p : Put s i (.d (.dict xs)) s'] : StepTo (frz (.top i) s k) (k (.dict xs) s') := ⟨fun h => st_frz_top_dc h⟩
instance go_st_frzAll_nil {k : List D → S → Prop} : StepTo (frzAll [] s k) (k [] s) := ⟨fun h => st_frzAll_nil h⟩
instance go_st_frzAll_cons {k : List D → S → Prop} : StepTo (frzAll (r :: rs) s k) (frz r s fun x s1 => frzAll rs s1 fun xs s2 => k (x :: xs) s2) := ⟨fun h => st_frzAll_cons h⟩
variable {ms : List Bool} {kb : List SV → S → Prop}
instance go_st_bind_nil : StepTo (bindA [] [] s kb) (kb [] s) := ⟨fun h => st_bind_nil h⟩
instance go_st_bind_f : StepTo (bindA (false :: ms) (r :: rs) s kb) (frz r s fun x s1 => bindA ms rs s1 fun svs s2 => kb (.d x :: svs) s2) := ⟨fun h => st_bind_f h⟩
instance go_st_bind_tt [g : Get s i v] [p : Put s i .no s'] : StepTo (bindA (true :: ms) (.top i :: rs) s kb) (bindA ms rs s' fun svs s2 => kb (v :: svs) s2) := ⟨fun h => st_bind_tt h⟩
instance go_st_bind_td : StepTo (bindA (true :: ms) (.d x :: rs) s kb) (bindA ms rs s fun svs s2 => kb (.d x :: svs) s2) := ⟨fun h => st_bind_td h⟩
instance go_st_bind_to : StepTo (bindA (true :: ms) (.own v :: rs) s kb) (bindA ms rs s fun svs s2 => kb (v :: svs) s2) := ⟨fun h => st_bind_to h⟩
instance go_st_out_d {k : R → S → Prop} : StepTo (outR (.d x) s k) (k (.d x) s) := ⟨fun h => st_out_d h⟩
instance go_st_out_own {k : R → S → Prop} : StepTo (outR (.own v) s k) (k (.own v) s) := ⟨fun h => st_out_own h⟩
instance go_st_out_top {k : R → S → Prop} [g : Get s i v] [p : Put s i .no s'] : StepTo (outR (.top i) s k) (k (.own v) s') := ⟨fun h => st_out_top h⟩
variable {kl : List D → S → Prop} {fr : FA} {ds : List D} {n m : Int}
instance go_st_seqI : StepTo (iSeq a X s kl) (a X s fun r s1 => frz r s1 fun d s2 => match d with | .list xs => kl xs s2 | .tuple xs => kl xs s2 | _ => False) := ⟨fun h => st_seqI h⟩
instance go_st_range1 : StepTo (iRange1 fr X s kl) (fr X s fun rs s1 => match rs with | [.d (.int j)] => lim62 j ∧ kl (rangeD 0 j.toNat) s1 | _ => False) := ⟨fun h => st_range1 h⟩
instance go_st_range2 : StepTo (iRange2 fr X s kl) (fr X s fun rs s2 => match rs with | [.d (.int i), .d (.int j)] => lim62 i ∧ lim62 j ∧ kl (rangeD i (j - i).toNat) s2 | _ => False) := ⟨fun h => st_range2 h⟩
instance go_st_enum : StepTo (iEnum fr X s kl) (fr X s fun rs s1 => frzAll rs s1 fun ds s2 => match ds with
  | [.list xs] => kl (enumD xs) s2
  | [.tuple xs] => kl (enumD xs) s2
  | _ => False) := ⟨fun h => st_enum h⟩
instance go_st_zip : StepTo (iZip fr X s kl) (fr X s fun rs s1 => frzAll rs s1 fun ds s4 => match ds with
  | [.list xs, .list ys] => kl (zipD xs ys) s4
  | [.tuple xs, .list ys] => kl (zipD xs ys) s4
  | [.list xs, .tuple ys] => kl (zipD xs ys) s4
  | [.tuple xs, .tuple ys] => kl (zipD xs ys) s4
  | _ => False) := ⟨fun h => st_zip h⟩
instance go_st_nm {k : S → Prop} [p : Put s i (.d x) s'] : StepTo (gNm i x s k) (k s') := ⟨fun h => st_nm h⟩
instance go_st_tp {k : S → Prop} {fgs : List FG} : StepTo (gTp fgs (.tuple ds) s k) (gTp.gTps fgs ds s k) := ⟨fun h => st_tp h⟩
instance go_st_tps_nil {k : S → Prop} : StepTo (gTp.gTps [] [] s k) (k s) := ⟨fun h => st_tps_nil h⟩
instance go_st_tps_cons {k : S → Prop} {fg : FG} {fgs : List FG} : StepTo (gTp.gTps (fg :: fgs) (x :: ds) s k) (fg x s fun s1 => gTp.gTps fgs ds s1 k) := ⟨fun h => st_tps_cons h⟩
variable {k : R → Prop} {xs ys : List D}
instance go_st_add_i : StepTo (opAdd (.int n) (.int m) k) (k (.d (.int (n + m)))) := ⟨fun h => st_add_i h⟩
instance go_st_sub_i : StepTo (opSub (.int n) (.int m) k) (k (.d (.int (n - m)))) := ⟨fun h => st_sub_i h⟩
instance go_st_neg_i : StepTo (uNeg (.int n) k) (k (.d (.int (-n)))) := ⟨fun h => st_neg_i h⟩
instance go_st_eq_i : StepTo (cEq (.int n) (.int m) k) (k (.d (.bool (decide (n = m))))) := ⟨fun h => st_eq_i h⟩
instance go_st_ne_i : StepTo (cNe (.int n) (.int m) k) (k (.d (.bool (!decide (n = m))))) := ⟨fun h => st_ne_i h⟩
instance go_st_eq_b {p q : Bool} : StepTo (cEq (.bool p) (.bool q) k) (k (.d (.bool (p == q)))) := ⟨fun h => st_eq_b h⟩
instance go_st_ne_b {p q : Bool} : StepTo (cNe (.bool p) (.bool q) k) (k (.d (.bool (!(p == q))))) := ⟨fun h => st_ne_b h⟩
instance go_st_eq_str {p q : Str} : StepTo (cEq (.str p) (.str q) k) (k (.d (.bool (decide (p = q))))) := ⟨fun h => st_eq_str h⟩
instance go_st_ne_str {p q : Str} : StepTo (cNe (.str p) (.str q) k) (k (.d (.bool (!decide (p = q))))) := ⟨fun h => st_ne_str h⟩
instance go_st_lt_i : StepTo (cLt (.int n) (.int m) k) (k (.d (.bool (decide (n < m))))) := ⟨fun h => st_lt_i h⟩
instance go_st_le_i : StepTo (cLe (.int n) (.int m) k) (k (.d (.bool (decide (n ≤ m))))) := ⟨fun h => st_le_i h⟩
instance go_st_gt_i : StepTo (cGt (.int n) (.int m) k) (k (.d (.bool (decide (m < n))))) := ⟨fun h => st_gt_i h⟩
instance go_st_ge_i : StepTo (cGe (.int n) (.int m) k) (k (.d (.bool (decide (m ≤ n))))) := ⟨fun h => st_ge_i h⟩
instance go_st_is_n : StepTo (cIs x .none k) (k (.d (.bool (isNone x)))) := ⟨fun h => st_is_n h⟩
instance go_st_isNot_n : StepTo (cIsNot x .none k) (k (.d (.bool (!isNone x)))) := ⟨fun h => st_isNot_n h⟩
instance go_st_is_b {p q : Bool} : StepTo (cIs (.bool p) (.bool q) k) (k (.d (.bool (decide (p = q))))) := ⟨fun h => st_is_b h⟩
instance go_st_isNot_b {p q : Bool} : StepTo (cIsNot (.bool p) (.bool q) k) (k (.d (.bool (!decide (p = q))))) := ⟨fun h => st_isNot_b h⟩
instance go_st_len_l : StepTo (bLen [.list xs] k) (k (.d (.int (xs.length : Nat)))) := ⟨fun h => st_len_l h⟩
instance go_st_len_t : StepTo (bLen [.tuple xs] k) (k (.d (.int (xs.length : Nat)))) := ⟨fun h => st_len_t h⟩
instance go_st_len_lit {ns : List Int} : StepTo (bLen [litD ns] k) (k (.d (.int (ns.length : Nat)))) := ⟨fun h => st_len_lit h⟩
instance go_st_abs : StepTo (bAbs [.int n] k) (k (.d (.int (n.natAbs : Nat)))) := ⟨fun h => st_abs h⟩
instance go_st_max2 : StepTo (bMax2 [.int n, .int m] k) (k (.d (.int (max n m)))) := ⟨fun h => st_max2 h⟩
instance go_st_min2 : StepTo (bMin2 [.int n, .int m] k) (k (.d (.int (min n m)))) := ⟨fun h => st_min2 h⟩
instance go_st_int_i : StepTo (bInt [.int n] k) (k (.d (.int n))) := ⟨fun h => st_int_i h⟩
instance go_st_int_b {p : Bool} : StepTo (bInt [.bool p] k) (k (.d (.int (if p then 1 else 0)))) := ⟨fun h => st_int_b h⟩
instance go_st_tuple_l : StepTo (bTuple [.list xs] k) (k (.d (.tuple xs))) := ⟨fun h => st_tuple_l h⟩
instance go_st_tuple_t : StepTo (bTuple [.tuple xs] k) (k (.d (.tuple xs))) := ⟨fun h => st_tuple_t h⟩
instance go_st_list_l : StepTo (bList [.list xs] k) (k (.own (.l xs))) := ⟨fun h => st_list_l h⟩
instance go_st_list_t : StepTo (bList [.tuple xs] k) (k (.own (.l xs))) := ⟨fun h => st_list_t h⟩
instance go_st_sl_l {lo hi : Option Int} : StepTo (slD (.list xs) lo hi k) (k (.own (.l (slD.cutL xs lo hi)))) := ⟨fun h => st_sl_l h⟩
instance go_st_sl_t {lo hi : Option Int} : StepTo (slD (.tuple xs) lo hi k) (k (.d (.tuple (slD.cutL xs lo hi)))) := ⟨fun h => st_sl_t h⟩
end
end Hs
namespace Hs
open PySem
section
variable {X : XF} {s : S} {Q : R → S → Prop} {fa fb : FE} {n m : Int} {k : R → Prop} {xs ys : List D} {x y : D}
theorem st_rg1 {mk : List D → R} (h : fa X s fun r s1 => match r with | .d (.int j) => L2.RgOk 0 j ∧ Q (mk (rangeD 0 j.toNat)) s1 | _ => False) : fRg1 mk fa X s Q := h
theorem st_rg2 {mk : List D → R} (h : fa X s fun r1 s1 => fb X s1 fun r2 s2 => match r1, r2 with | .d (.int i), .d (.int j) => L2.RgOk i j ∧ Q (mk (rangeD i (j - i).toNat)) s2 | _, _ => False) : fRg2 mk fa fb X s Q := h
theorem st_enumL {fr : FA} {kl : List D → S → Prop} (h : fr X s fun rs s1 => frzAll rs s1 fun ds s2 => match ds with
  | [.list xs] => kl (enumD xs) s2
  | [.tuple xs] => kl (enumD xs) s2
  | _ => False) : iEnumL fr X s kl := h
theorem st_zipS {fr : FA} {kl : List D → S → Prop} (h : fr X s fun rs s1 => frzAll rs s1 fun ds s4 => match ds with
  | [.list xs, .list ys] => kl (zipD xs ys) s4
  | [.tuple xs, .tuple ys] => kl (zipD xs ys) s4
  | _ => False) : iZipS fr X s kl := h
theorem st_rev_l (h : k (.own (.l xs.reverse))) : revD (.list xs) k := h
theorem st_rev_t (h : k (.d (.tuple xs.reverse))) : revD (.tuple xs) k := h
theorem st_in_t (z1 : SeqAt.shaped x = true) (z2 : SeqAt.shaped (.tuple xs) = true) (h : k (.d (.bool (xs.any fun z => PyData.eqv z x)))) : cIn x (.tuple xs) k := ⟨z1, z2, h⟩
theorem st_in_l (z1 : SeqAt.shaped x = true) (z2 : SeqAt.shaped (.list xs) = true) (h : k (.d (.bool (xs.any fun z => PyData.eqv z x)))) : cIn x (.list xs) k := ⟨z1, z2, h⟩
theorem st_notIn_t (z1 : SeqAt.shaped x = true) (z2 : SeqAt.shaped (.tuple xs) = true) (h : k (.d (.bool (!xs.any fun z => PyData.eqv z x)))) : cNotIn x (.tuple xs) k := ⟨z1, z2, h⟩
theorem st_notIn_l (z1 : SeqAt.shaped x = true) (z2 : SeqAt.shaped (.list xs) = true) (h : k (.d (.bool (!xs.any fun z => PyData.eqv z x)))) : cNotIn x (.list xs) k := ⟨z1, z2, h⟩
theorem st_lt_t {ns ms : List Int} (e1 : intsOf xs = some ns) (e2 : intsOf ys = some ms) (h : k (.d (.bool (HT.lexLt ns ms)))) : cLt (.tuple xs) (.tuple ys) k := by
  show (match intsOf xs, intsOf ys with | some ns, some ms => k (.d (.bool (HT.lexLt ns ms))) | _, _ => False)
  rw [e1, e2]; exact h
end
/-- a tuple of whole numbers -/
def IntT (m : Nat) (d : D) : Prop := ∃ ks : List Int, d = .tuple (ks.map .int) ∧ ks.length ≤ m
theorem IntT.cut {m : Nat} {ks : List Int} {lo hi : Option Int} (h : ks.length ≤ m) : ∃ ls : List Int, slD.cutL (ks.map PyData.int) lo hi = ls.map PyData.int ∧ ls.length ≤ m := by
  unfold slD.cutL
  rw [List.length_map, ← List.map_drop, ← List.map_take]
  exact ⟨_, rfl, by rw [List.length_take, List.length_drop]; omega⟩
theorem comp_list {α : Type} {X : XF} {fg : FG} {wp : List Nat} {e : FE} {Q : R → S → Prop} {s : S} (g f : α → D) (l : List α) (hs : ∀ a, a ∈ l → ∀ (kT : D → S → Prop), kT (f a) s → fg (g a) s fun s1 => e X s1 fun r s3 => frz r s3 fun d s4 => kT d (wipeS s4 wp)) (h : Q (.own (.l (l.map f))) s) :
    fComp X fg wp fYes e Q (l.map g) [] s := by
  have go : ∀ (l : List α) (acc : List D), (∀ a, a ∈ l → ∀ (kT : D → S → Prop), kT (f a) s → fg (g a) s fun s1 => e X s1 fun r s3 => frz r s3 fun d s4 => kT d (wipeS s4 wp)) → Q (.own (.l (acc ++ l.map f))) s → fComp X fg wp fYes e Q (l.map g) acc s := by
    intro l
    induction l with
    | nil =>
      intro acc _ h
      have h : Q (.own (.l (acc ++ []))) s := h
      rw [List.append_nil] at h
      exact h
    | cons a l ih =>
      intro acc hs h
      exact hs a List.mem_cons_self (fun d s4 => fComp X fg wp fYes e Q (l.map g) (acc ++ [d]) s4) (ih _ (fun b hb => hs b (List.mem_cons_of_mem _ hb)) (by simpa using h))
  exact go l [] hs (by simpa using h)
theorem st_all_map {α : Type} {l : List α} {b : α → Bool} {k : R → Prop} (h : k (.d (.bool (l.all b)))) : bAll [.list (l.map fun a => .bool (b a))] k := by
  refine st_all (bs := l.map b) (by simp) ?_
  rw [List.all_map]
  exact h
theorem st_any_map {α : Type} {l : List α} {b : α → Bool} {k : R → Prop} (h : k (.d (.bool (l.any b)))) : bAny [.list (l.map fun a => .bool (b a))] k := by
  refine st_any (bs := l.map b) (by simp) ?_
  rw [List.any_map]
  exact h
theorem loop_list {α : Type} {nx bk ct : S → Prop} {rt : R → S → Prop} {xx : XF} {f1 : FS} {fg : FG} {wp : List Nat} (g : α → D) (I : List α → S → Prop) (hend : ∀ s, I [] s → nx s)
    (hstep : ∀ a l s (k : S → Prop), I (a :: l) s → (∀ s', I l s' → k s') → fg (g a) s fun s1 => f1 ⟨fun s2 => k (wipeS s2 wp), rt, fun s2 => wipeK s2 wp nx, fun s2 => k (wipeS s2 wp), xx⟩ s1) : ∀ l s, I l s → fLoop fg wp f1 ⟨nx, rt, bk, ct, xx⟩ (l.map g) s
  | [], s, h => hend s h
  | a :: l, s, h => hstep a l s (fLoop fg wp f1 ⟨nx, rt, bk, ct, xx⟩ (l.map g)) h fun s' h' => loop_list g I hend hstep l s' h'
theorem st_ne_lit {ns : List Int} {k : R → Prop} (h : k (.d (.bool (decide (0 < ns.length))))) : cNe (litD ns) (.list []) k := by
  have one : ∀ ns : List Int, PyData.canLayAll0 (ns.map PyData.int) = true ∧ PyData.depthAll (ns.map PyData.int) ≤ 1 := by
    intro ns
    induction ns with
    | nil => exact ⟨rfl, by show (0 : Nat) ≤ 1; decide⟩
    | cons n ns ih =>
      refine ⟨?_, ?_⟩
      · show ((PyData.int n).canLay0 && PyData.canLayAll0 (ns.map PyData.int)) = true
        rw [ih.1]; rfl
      · show max ((PyData.int n).depth) (PyData.depthAll (ns.map PyData.int)) ≤ 1
        have h2 : (PyData.int n).depth ≤ 1 := by simp [PyData.depth]
        have h3 := ih.2
        omega
  obtain ⟨o1, o2⟩ := one ns
  refine st_ne (x := litD ns) ?_ rfl ?_
  · show SeqAt.shaped (.list (ns.map PyData.int)) = true
    unfold SeqAt.shaped
    rw [show (PyData.list (ns.map PyData.int)).canLay0 = PyData.canLayAll0 (ns.map PyData.int) from by simp [PyData.canLay0], o1]
    simp [PyData.depth]
    omega
  · show k (.d (.bool (!PyData.eqvAll (ns.map PyData.int) [])))
    cases ns with
    | nil => exact h
    | cons n ns => simpa [PyData.eqvAll] using h
theorem shaped_int {i : Int} : SeqAt.shaped (.int i) = true := rfl
theorem canLay_pairs : ∀ ts : List (Int × Int), PyData.canLayAll0 (ts.map pairD) = true
  | [] => rfl
  | t :: ts => by
    show ((pairD t).canLay0 && PyData.canLayAll0 (ts.map pairD)) = true
    rw [canLay_pairs ts]; rfl
theorem depth_pairs : ∀ ts : List (Int × Int), PyData.depthAll (ts.map pairD) ≤ 2
  | [] => by show (0 : Nat) ≤ 2; decide
  | t :: ts => by
    show max ((pairD t).depth) (PyData.depthAll (ts.map pairD)) ≤ 2
    have h := depth_pairs ts
    have h2 : (pairD t).depth ≤ 2 := by unfold pairD; simp [PyData.depth, PyData.depthAll]
    omega
theorem shaped_pairD {p : Int × Int} : SeqAt.shaped (pairD p) = true := rfl
theorem shaped_pairs {ts : List (Int × Int)} : SeqAt.shaped (.tuple (ts.map pairD)) = true := by
  unfold SeqAt.shaped
  rw [show (PyData.tuple (ts.map pairD)).canLay0 = PyData.canLayAll0 (ts.map pairD) from by simp [PyData.canLay0], canLay_pairs]
  have h := depth_pairs ts
  simp [PyData.depth]
  omega
theorem shaped_pairsL {ts : List (Int × Int)} : SeqAt.shaped (.list (ts.map pairD)) = true := by
  unfold SeqAt.shaped
  rw [show (PyData.list (ts.map pairD)).canLay0 = PyData.canLayAll0 (ts.map pairD) from by simp [PyData.canLay0], canLay_pairs]
  have h := depth_pairs ts
  simp [PyData.depth]
  omega
theorem eqv_pair {p q : Int × Int} : PyData.eqv (pairD p) (pairD q) = decide (p = q) := by
  obtain ⟨a, b⟩ := p
  obtain ⟨c, d⟩ := q
  simp only [pairD, PyData.eqv, PyData.eqvAll, Prod.mk.injEq, Bool.and_true]
  by_cases h1 : a = c <;> by_cases h2 : b = d <;> simp [h1, h2]
theorem any_pair {ts : List (Int × Int)} {p : Int × Int} : ((ts.map pairD).any fun z => PyData.eqv z (pairD p)) = decide (p ∈ ts) := by
  rw [List.any_map]
  apply Bool.eq_iff_iff.mpr
  simp only [List.any_eq_true, Function.comp, eqv_pair, decide_eq_true_eq]
  constructor
  · rintro ⟨q, h, rfl⟩; exact h
  · intro h; exact ⟨p, h, rfl⟩
theorem st_in_pt {ts : List (Int × Int)} {a b : Int} {k : R → Prop} (h : k (.d (.bool (decide ((a, b) ∈ ts))))) : cIn (.tuple [.int a, .int b]) (.tuple (ts.map pairD)) k := by
  refine st_in_t (shaped_pairD (p := (a, b))) shaped_pairs ?_
  rw [show (PyData.tuple [.int a, .int b]) = pairD (a, b) from rfl, any_pair]
  exact h
theorem st_in_pl {ts : List (Int × Int)} {a b : Int} {k : R → Prop} (h : k (.d (.bool (decide ((a, b) ∈ ts))))) : cIn (.tuple [.int a, .int b]) (.list (ts.map pairD)) k := by
  refine st_in_l (shaped_pairD (p := (a, b))) shaped_pairsL ?_
  rw [show (PyData.tuple [.int a, .int b]) = pairD (a, b) from rfl, any_pair]
  exact h
/-- a web -/
abbrev webD (n : Int) (ts : List (Int × Int)) : D := .tuple [.int n, .tuple (ts.map pairD)]
structure Good (n : Int) (ts : List (Int × Int)) : Prop where
  n0 : 0 ≤ n
  n10 : n ≤ 10
  ties : ∀ p ∈ ts, 0 ≤ p.1 ∧ p.1 < p.2 ∧ p.2 < n
  up : ts.Pairwise (fun p q => ltPr p q = true)
  few : ts.length ≤ 1000
theorem lex_pair {p q : Int × Int} : HT.lexLt [p.1, p.2] [q.1, q.2] = ltPr p q := by
  unfold ltPr
  rw [HT.lexLt_cons]
  by_cases h : p.1 = q.1
  · rw [if_pos h, h, HT.lexLt_cons]
    by_cases h2 : p.2 = q.2
    · rw [if_pos h2, h2]; simp [HT.lexLt_nil_nil]
    · rw [if_neg h2]; simp
  · rw [if_neg h]; simp [h]
theorem at_ok {ns : List Int} {i : Int} (h0 : 0 ≤ i) (h1 : i < (ns.length : Int)) : ∃ z, L2.atI ns i = some z := by
  obtain ⟨k, rfl⟩ := Int.eq_ofNat_of_zero_le h0
  have hk : k < ns.length := by omega
  exact ⟨ns[k], L2.atI_nat (by simp [hk])⟩
theorem canLay_web {n : Int} {ts : List (Int × Int)} : (webD n ts).canLay0 = true := by
  simp [webD, PyData.canLay0, PyData.canLayAll0, canLay_pairs]
theorem shaped_web {n : Int} {ts : List (Int × Int)} : SeqAt.shaped (webD n ts) = true := by
  unfold SeqAt.shaped
  rw [canLay_web]
  have h := depth_pairs ts
  simp [webD, PyData.depth, PyData.depthAll]
  omega
theorem lay_ints : ∀ ns : List Int, PyData.canLayAll0 (ns.map PyData.int) = true ∧ PyData.depthAll (ns.map PyData.int) ≤ 1
  | [] => ⟨rfl, Nat.zero_le _⟩
  | n :: ns => by
    obtain ⟨h1, h2⟩ := lay_ints ns
    refine ⟨by show ((PyData.int n).canLay0 && PyData.canLayAll0 (ns.map PyData.int)) = true; rw [h1]; rfl, ?_⟩
    show max ((PyData.int n).depth) (PyData.depthAll (ns.map PyData.int)) ≤ 1
    have h3 : (PyData.int n).depth ≤ 1 := by simp [PyData.depth]
    omega
theorem shaped_intsL {ns : List Int} : SeqAt.shaped (.list (ns.map PyData.int)) = true := by
  obtain ⟨h1, h2⟩ := lay_ints ns
  unfold SeqAt.shaped
  rw [show (PyData.list (ns.map PyData.int)).canLay0 = PyData.canLayAll0 (ns.map PyData.int) from by simp [PyData.canLay0], h1]
  simp [PyData.depth]
  omega
theorem shaped_intsT {ns : List Int} : SeqAt.shaped (.tuple (ns.map PyData.int)) = true := by
  obtain ⟨h1, h2⟩ := lay_ints ns
  unfold SeqAt.shaped
  rw [show (PyData.tuple (ns.map PyData.int)).canLay0 = PyData.canLayAll0 (ns.map PyData.int) from by simp [PyData.canLay0], h1]
  simp [PyData.depth]
  omega
theorem eqv_ints : ∀ ns ms : List Int, PyData.eqvAll (ns.map PyData.int) (ms.map PyData.int) = decide (ns = ms)
  | [], [] => rfl
  | [], _ :: _ => rfl
  | _ :: _, [] => rfl
  | n :: ns, m :: ms => by
    show (PyData.eqv (.int n) (.int m) && PyData.eqvAll (ns.map PyData.int) (ms.map PyData.int)) = _
    rw [eqv_ints ns ms]
    simp only [PyData.eqv]
    by_cases h1 : n = m <;> by_cases h2 : ns = ms <;> simp [h1, h2]
theorem st_ne_ll {ns ms : List Int} {k : R → Prop} (h : k (.d (.bool (!decide (ns = ms))))) : cNe (.list (ns.map .int)) (.list (ms.map .int)) k := by
  refine st_ne (x := .list (ns.map .int)) (y := .list (ms.map .int)) shaped_intsL shaped_intsL ?_
  show k (.d (.bool (!PyData.eqvAll (ns.map .int) (ms.map .int))))
  rw [eqv_ints]
  exact h
def rangeI (n : Nat) : List Int := (List.range n).map fun (k : Nat) => (k : Int)
theorem rangeD_map {n : Nat} : rangeD 0 n = (rangeI n).map PyData.int := by
  unfold rangeD rangeI
  rw [List.map_map]
  apply List.map_congr_left
  intro k _
  simp
theorem rangeI_mem {n : Nat} {i : Int} : i ∈ rangeI n ↔ 0 ≤ i ∧ i < n := by
  unfold rangeI
  rw [List.mem_map]
  constructor
  · rintro ⟨k, hk, rfl⟩
    have := List.mem_range.mp hk
    omega
  · rintro ⟨h0, h1⟩
    exact ⟨i.toNat, List.mem_range.mpr (by omega), by omega⟩
/-- script, where, what is left to be drawn from; F draws are allowed at least -/
def Cup (ns : List Int) (F : Nat) (xs : List D) : Prop := ∃ a v : Int, xs = [litD ns, .int a, .int v] ∧ 0 ≤ a ∧ a + (F : Int) ≤ 2 ^ 64
theorem Cup.less {ns : List Int} {F G : Nat} {xs : List D} (h : Cup ns F xs) (l : G ≤ F) : Cup ns G xs := by
  obtain ⟨a, v, e, h0, h1⟩ := h
  exact ⟨a, v, e, h0, by omega⟩
end Hs
namespace Hs
open PySem
class PvAll (ws : List PV) (ds : outParam (List D)) : Prop where e : ws.map PV.asD = ds
instance pvN : PvAll [] [] := ⟨rfl⟩
instance pvD {x : D} {ws : List PV} {ds : List D} [h : PvAll ws ds] : PvAll (.d x :: ws) (x :: ds) := ⟨by rw [List.map_cons, h.e]; rfl⟩
instance pvL {x : List D} {ws : List PV} {ds : List D} [h : PvAll ws ds] : PvAll (.l x :: ws) (.list x :: ds) := ⟨by rw [List.map_cons, h.e]; rfl⟩
instance pvC {x : List (D × D)} {ws : List PV} {ds : List D} [h : PvAll ws ds] : PvAll (.dc x :: ws) (.dict x :: ds) := ⟨by rw [List.map_cons, h.e]; rfl⟩
class Frz (s : S) (s' : outParam S) : Prop where e : frzS s = s'
instance frzN : Frz [] [] := ⟨rfl⟩
theorem frzC {w : SV} {s s' : S} (h : frzS s = s') : frzS (w :: s) = frz1 w :: s' := by rw [← h]; rfl
instance frzNo {s s' : S} [h : Frz s s'] : Frz (.no :: s) (.no :: s') := ⟨frzC h.e⟩
instance frzD {x : D} {s s' : S} [h : Frz s s'] : Frz (.d x :: s) (.d x :: s') := ⟨frzC h.e⟩
instance frzL {x : List D} {s s' : S} [h : Frz s s'] : Frz (.l x :: s) (.d (.list x) :: s') := ⟨frzC h.e⟩
instance frzLL {x : List (List D)} {s s' : S} [h : Frz s s'] : Frz (.ll x :: s) (.d (.list (x.map .list)) :: s') := ⟨frzC h.e⟩
instance frzDc {x : List (D × D)} {s s' : S} [h : Frz s s'] : Frz (.dc x :: s) (.d (.dict x) :: s') := ⟨frzC h.e⟩
instance frzTp {ws : List PV} {ds : List D} {s s' : S} [p : PvAll ws ds] [h : Frz s s'] : Frz (.tp ws :: s) (.d (.tuple ds) :: s') := ⟨by
  rw [← p.e]
  exact frzC h.e⟩
def bindT (rs : List R) (s : S) (k : List SV → S → Prop) : Prop := bindA (List.replicate rs.length true) rs s k
section
variable {s' s'' : S}
variable {nx bk ct : S → Prop} {rt : R → S → Prop} {X xx : XF} {s : S} {a b c e : FE} {t u : FT} {f1 f2 : FS} {Q : R → S → Prop} {P : R → Prop} {i j : Nat} {x y d : D} {v : SV} {g g' : V2} {r : R} {rs : List R}
theorem st_ix2_l {xs : List D} (h : ixD (.list xs) x P) : ixD2 (.list xs) x P := .inl h
theorem st_ix2_t {xs : List D} (h : ixD (.tuple xs) x P) : ixD2 (.tuple xs) x P := .inl h
theorem st_ix2_s {z : Str} (h : ixD (.str z) x P) : ixD2 (.str z) x P := .inl h
theorem st_ix2_lit {ns : List Int} (h : ixD (litD ns) x P) : ixD2 (litD ns) x P := .inl h
theorem st_inK_l {xs : List D} (h : cIn x (.list xs) P) : cInK x (.list xs) P := .inl h
theorem st_inK_t {xs : List D} (h : cIn x (.tuple xs) P) : cInK x (.tuple xs) P := .inl h
theorem st_ninK_l {xs : List D} (h : cNotIn x (.list xs) P) : cNotInK x (.list xs) P := .inl h
theorem st_ninK_t {xs : List D} (h : cNotIn x (.tuple xs) P) : cNotInK x (.tuple xs) P := .inl h
theorem st_setD (h : a xx s fun r s1 => onDc i s1 fun _ => e xx s1 fun rj s2 => frz r s2 fun d s3 => frz rj s3 fun k s4 => onDc i s4 fun kvs => dPut kvs k d fun kvs' => putR i (.own (.dc kvs')) s4 nx) : fSetD i e a ⟨nx, rt, bk, ct, xx⟩ s := h
theorem st_onDc {k : List (D × D) → Prop} {xs : List (D × D)} [e : Get s i (.dc xs)] (h : k xs) : onDc i s k := by unfold onDc; rw [e.e]; exact h
theorem st_dget2 (h : onDc i s fun _ => a X s fun rj s1 => b X s1 fun rx s2 => frz rj s2 fun k s3 => frz rx s3 fun d s4 => onDc i s4 fun kvs => dGet kvs k fun o => Q (.d (o.getD d)) s4) : fDGet2 i a b X s Q := h
theorem st_emT (h : Q (.own (.dc [(.none, .none)])) s) : fEmT X s Q := h
def keyK (d : D) (K : L2.Key → Prop) : Prop := match keyN d with
  | some k' => K k'
  | none => False
theorem st_disp1 (h : a X s fun rk s1 => b X s1 fun rv s2 => frz rk s2 fun kd s3 => frz rv s3 fun d s4 => keyK kd fun k' => Q (.own (.dc [(keyD k', d)])) s4) : fDisp1 a b X s Q := h
theorem st_disp1k {z : Int} {K : L2.Key → Prop} (h : K (.inl z)) : keyK (.int z) K := h
theorem st_range3 {fa : FA} {Q : List D → S → Prop} (h : fa X s fun rs s2 => match rs with
  | [.d (.int i), .d (.int j), .d (.int c)] => c = -1 ∧ lim62 i ∧ lim62 j ∧ Q (downD i (i - j).toNat) s2
  | _ => False) : iRange3 fa X s Q := h
theorem st_bor [f : Frz s s'] (h : a (fun _ _ => False) s' fun r _ => flatR r (Q r s)) : fBor a X s Q := by
  unfold fBor
  rw [f.e]
  exact h
theorem st_borT {Q : Bool → S → Prop} [f : Frz s s'] (h : t (fun _ _ => False) s' fun b _ => Q b s) : fBorT t X s Q := by
  unfold fBorT
  rw [f.e]
  exact h
theorem st_bindT_nil {k : List SV → S → Prop} (h : k [] s) : bindT [] s k := h
theorem st_bindT_d {k : List SV → S → Prop} (h : bindT rs s fun svs s2 => k (.d x :: svs) s2) : bindT (.d x :: rs) s k := h
theorem st_bindT_o {k : List SV → S → Prop} (h : bindT rs s fun svs s2 => k (v :: svs) s2) : bindT (.own v :: rs) s k := h
theorem st_bindT_t {k : List SV → S → Prop} [g : Get s i v] [p : Put s i .no s'] (h : bindT rs s' fun svs s2 => k (v :: svs) s2) : bindT (.top i :: rs) s k := by
  show bindA (List.replicate rs.length true) rs (s.set i .no) (fun svs s2 => k (s.getD i .no :: svs) s2)
  rw [p.e, g.e]
  exact h
theorem st_toPs_nil {k : List PV → Prop} (h : k []) : toPs [] k := h
theorem st_toPs_d {k : List PV → Prop} {r : List SV} (h : toPs r fun ws => k (.d x :: ws)) : toPs (.d x :: r) k := h
theorem st_toPs_l {k : List PV → Prop} {r : List SV} {xs : List D} (h : toPs r fun ws => k (.l xs :: ws)) : toPs (.l xs :: r) k := h
theorem st_toPs_dc {k : List PV → Prop} {r : List SV} {xs : List (D × D)} (h : toPs r fun ws => k (.dc xs :: ws)) : toPs (.dc xs :: r) k := h
theorem st_tupO {fa : FA} (h : fa X s fun rs s1 => bindT rs s1 fun svs s2 => toPs svs fun ws => Q (.own (.tp ws)) s2) : fTupO fa X s Q := h
theorem st_var_tp {ws : List PV} [e : Get s i (.tp ws)] (h : Q (.top i) s) : fVar i X s Q := by unfold fVar; rw [e.e]; exact h
theorem st_frz_own_tp {k : D → S → Prop} {ws : List PV} {ds : List D} [e : PvAll ws ds] (h : k (.tuple ds) s) : frz (.own (.tp ws)) s k := by
  show k (.tuple (ws.map PV.asD)) s
  rw [e.e]; exact h
theorem st_frz_top_tp {k : D → S → Prop} {ws : List PV} {ds : List D} [g : Get s i (.tp ws)] [e : PvAll ws ds] [p : Put s i (.d (.tuple ds)) s'] (h : k (.tuple ds) s') : frz (.top i) s k := frz_top' (x := .tuple ds) (by rw [g.e]; show some (PyData.tuple (ws.map PV.asD)) = _; rw [e.e]) (by rw [p.e]; exact h)
theorem st_onP {k : Nat} {kk : List PV → List D → Prop} {ws : List PV} {xs : List D} [g : Get s i (.tp ws)] (e : ws[k]? = some (.l xs)) (h : kk ws xs) : onP i k s kk := by
  unfold onP
  rw [g.e]
  dsimp only
  rw [e]
  exact h
theorem st_lmP {k : Nat} {g : LM} {fa : FA} (h : onP i k s fun _ _ => fa X s fun rs s1 => frzAll rs s1 fun ds s2 => onP i k s2 fun ws xs => g xs ds fun d xs' => putR i (.own (.tp (ws.set k (.l xs')))) s2 fun s3 => Q (.d d) s3) : fLmP i k g fa X s Q := h
theorem st_flat_b {P : Prop} {z : Bool} (h : P) : flatR (.d (.bool z)) P := ⟨rfl, h⟩
theorem st_flat_i {P : Prop} {z : Int} (h : P) : flatR (.d (.int z)) P := ⟨rfl, h⟩
end
structure DIs (kvs : List (D × D)) (f : Int → Option D) : Prop where
  key : ∀ p ∈ kvs, ∃ i : Int, p.1 = .int i
  get : ∀ i : Int, (kvs.find? fun p => sameN p.1 (.inl i)).map (·.2) = f i
theorem DIs.nil : DIs [] fun _ => none := ⟨fun p hp => (nomatch hp), fun i => rfl⟩
theorem DIs.one (k : Int) (x : D) : DIs [(keyD (.inl k), x)] fun i => if i = k then some x else none := by
  refine ⟨fun p hp => ?_, fun i => ?_⟩
  · rw [List.mem_singleton] at hp
    exact ⟨k, by rw [hp]; rfl⟩
  · rw [List.find?_cons]
    dsimp only
    rw [sameN_keyD]
    by_cases h : i = k
    · subst h
      simp
    · rw [decide_eq_false (fun e => h (Sum.inl.inj e).symm), if_neg h]
      rfl
end Hs
namespace Hs
open PySem PySem.Spec PyProof.Rows L2
section
variable {M : Model} {A : Around} {E : Value → Shared → Prop} {s : Shared} {env : Env}
/-- what a comprehension's block leaves, its own env told -/
def EndX (M : Model) (A : Around) (E Q : Value → Shared → Prop) (acc : Value) (ce : Env) : Result → Shared → Prop
  | .ok _, sz => ∃ m, sz.heap.Ns ce.locals m ∧ ∀ hz, Heap.SameBut ce.locals sz.heap hz → Q acc { sz with heap := hz }
  | .error x, sz => ∃ m, sz.heap.Ns ce.locals m ∧ ∀ hz, Heap.SameBut ce.locals sz.heap hz → wpAny M A (passOn "comprehension.variables-let-go" x ce : Sem Value) (fun _ _ => False) E { sz with heap := hz }
theorem comp_runs {e : Expr} {scope : Scope} {pos : Pos} {na fst : Sem Value} {g : Comprehension} {gs : List Comprehension} {cl : List (Str × Addr)} {Q : Value → Shared → Prop}
    (h1 : clausesOf e = g :: gs) (h2 : ∀ x, foldedSetIterable g.iter env x = pure x) (h3 : closureFor scope env = pure cl) (h4 : scope.kind = .function) (h5 : ∀ x ∈ scope.names, x.2 = .local → scope.names.lookup x.1 = some .local)
    (h : wpAny M A fst (fun x sa => wpAny M A (pyIter x) (fun it sb => wpAny M A na (fun acc sc => wpAny M A (newFunctionEnv scope env.globals cl [] env.qual none .none (some env)) (fun ce sd =>
      codeAny M A (.compStart e 0 it acc { ce with scope := relabel scope env }) (EndX M A E Q acc { ce with scope := relabel scope env }) sd) E sc) E sb) E sa) E s) :
    wpAny M A (comprehension e scope env pos na false fst none) Q E s := by
  unfold comprehension
  rw [h3, h1]
  refine wpAny_bind (wpAny_mono h (fun x sa ha => ?_) fun _ _ z => z)
  refine wpAny_bind (wpAny_standAt (wpAny_bind (wpAny_of_eq (h2 x) (wpAny_bind (wpAny_holding (wpAny_mono ha (fun it sb hb => ?_) fun _ _ z => z))))))
  refine wpAny_standIf (wpAny_bind (wpAny_mono hb (fun acc sc hc => ?_) fun _ _ z => z))
  refine wpAny_bind (wpAny_pure (wpAny_bind (wpAny_mono hc (fun ce sd hd => ?_) fun _ _ z => z)))
  dsimp only
  have loc : ∀ x ∈ (scope.names.filter fun x => (x.2 == .local || x.2 == .cell) && x.1 != (".0" : Str)).reverse, x.2 = .local → Env.kindOf { ce with scope := relabel scope env } x.1 = some .local :=
    fun x hx hl => lookup_relabel_local (h5 x (List.mem_filter.mp (List.mem_reverse.mp hx)).1 hl)
  refine wpAny_holding (wpAny_bind (wpAny_attempt (wpAny_holding (wpAny_run (codeAny_mono hd fun r sz hr => ?_)))))
  cases r with
  | ok f =>
    obtain ⟨m, hn, hq⟩ := hr
    exact wpAny_bind (wpAny_holding (wpAny_comp_letGo (cenv := { ce with scope := relabel scope env }) h4 _ sz m loc hn fun hz m' _ sb => wpAny_pure (hq hz sb)))
  | error x =>
    obtain ⟨m, hn, hq⟩ := hr
    exact wpAny_bind (wpAny_holding (wpAny_comp_letGo (cenv := { ce with scope := relabel scope env }) h4 _ sz m loc hn fun hz m' _ sb => wpAny_mono (hq hz sb) (fun _ _ f => f.elim) fun _ _ z => z))
theorem note_same {e : Value} {e1 e2 : Env} (h : e1.frame = e2.frame) : noteFrame e e1 = noteFrame e e2 := by
  unfold noteFrame PySem.frameOf
  rw [h]
theorem frames_but {B h1 h2 : Heap} {C : Addr} (sb : Heap.SameBut C h1 h2) : ∀ {l : List Env}, (∀ b ∈ frs l, b ≠ C) → h1.FunFrames B l → h2.FunFrames (PySem.W.hideAll B [C]) l
  | [], _, _ => trivial
  | env :: l, ne, ⟨hk, ⟨L, o, hf, hb, ho, hd⟩, hr⟩ => by
    refine ⟨hk, ⟨L, o, hf, ?_, (sb.2 L (ne L (List.mem_filterMap.mpr ⟨env, List.mem_cons_self, hf⟩))).trans ho, hd⟩, frames_but sb (fun b hb => ne b ?_) hr⟩
    · cases q : (PySem.W.hideAll B [C]).get? L with
      | none => rfl
      | some o' =>
        have zq := PySem.W.of_hideAll _ q
        rw [hb] at zq; cases zq
    · obtain ⟨ev, hev, qv⟩ := List.mem_filterMap.mp hb
      exact List.mem_filterMap.mpr ⟨ev, List.mem_cons_of_mem _ hev, qv⟩
end
section
variable {X : Cx} {pins : List (Addr × Obj)} {σ : St} {H : Hp} {s s3 : Shared} {W : WX}
/-- the context of a block whose element may let an error out -/
abbrev blkX (X : Cx) (s : Shared) (H : Hp) (scope : Scope) (ce : Env) (fp : List Addr) (xe : Value → Shared → Prop) : Cx := (X.blk s H scope ce fp).tr [] xe
theorem blk_out (hs : X.stack = X.env :: X.outer) (hf : X.env.frame = some X.env.locals) (tk : Takes X W) {H3 : Hp} {scope : Scope} {ce : Env} {fp : List Addr} {acc : Value} {Q : Value → Shared → Prop} (I3 : Inv X pins σ H3 s3) (hcf : ce.frame = X.env.frame)
    (hC : ce.locals = s3.heap.objs.size) (f3 : ∀ b ∈ fp, FpOk X pins H3 b ∧ b < s3.heap.objs.size) (σ' : St) :
    PassesAt (L2.CX X.prog X.w) (blkX X s3 H3 scope ce fp (notedBy (model X.prog X.w) X.A ce fun e sz => EndX (model X.prog X.w) X.A X.xe Q acc ce (.error e) sz)) σ' (fun cls d H' => W cls d σ H') := by
  intro pins1 H1 s1 e s' J1 c
  obtain ⟨a0, B0, H0, cls0, d0, e0, fl0, hok0, ub0, na0, os0, ag0, hE0⟩ := id c
  obtain ⟨a, B, sI, pins2, σ2, H2, cls, d, e1, J, nb, up, sky, na, os, ag, w⟩ := XE.of_call (W := fun cls d _ H' => W cls d σ H') J1 (fun _ _ _ h => h) c
  subst e1
  obtain rfl : a = a0 := by cases e0; rfl
  have fl : HandSPX.FlyingZ B X.stack a (Zc cls d) s'.heap := by
    obtain ⟨_, _, _, oe, vs, T, oT, ts, q1, _, q2, q3, _, _, q4, q5, q6⟩ := fl0
    rcases sky with ⟨_, _, _, oe', vs', he, _, hd, h1⟩ | fl | ⟨_, _, _, oe', vs', T', oT', ts', p1, _, p2, p3, _, _, p4, p5, p6⟩
    · rw [q1] at he; cases he
      rw [q2] at hd; cases hd
      rw [q3] at h1; cases h1
    · exact fl
    · rw [q1] at p1; cases p1
      rw [q2] at p2; cases p2
      rw [q3] at p3; cases p3
      rw [q4] at p4; cases p4
      rw [q5] at p5; cases p5
      rw [q6] at p6; cases p6
  rw [hs] at fl
  have hfr : X.A.frames = some (X.env :: X.outer) := by rw [I3.ok.frames, hs]
  show wpAny _ X.A (noteFrame (.ref a) ce) _ _ s'
  rw [note_same hcf]
  refine HandSPX.looks_onZ Zc.steady hfr hf fl fun h1 hh up1 => ?_
  have J2 : Inv (blkX X s3 H3 scope ce fp (notedBy (model X.prog X.w) X.A ce fun e sz => EndX (model X.prog X.w) X.A X.xe Q acc ce (.error e) sz)) pins2 σ2 H2 { s' with heap := h1 } :=
    J.landed nb hh.1 (up.trans up1) os ag
  obtain ⟨m, hn, _⟩ := J2.loc
  obtain ⟨mI, hnI, _⟩ := J.loc
  have hnI : sI.heap.Ns ce.locals mI := hnI
  have nC : H2 ce.locals = none := J.free
  have fC : FpOk X pins H2 ce.locals := I3.fpOk (by rw [hC]; exact Nat.le_refl _) nC
  obtain ⟨g0, g1, g2, g3, g4, g5⟩ := fC
  have neC : ∀ b ∈ frs X.stack, b ≠ ce.locals := fun b hb z => by
    rcases List.mem_cons.mp (I3.stkSub b hb) with q | q
    · exact g1 (z.symm.trans q)
    · exact g2 (z ▸ q)
  have atC : ∃ o, B.get? ce.locals = some o := by
    obtain ⟨o, _, _, ho, _⟩ := hnI
    exact ⟨o, nb _ _ ho fun hm => neC _ hm rfl⟩
  obtain ⟨oC, hoC⟩ := atC
  refine ⟨m, hn, fun h2 sb => ?_⟩
  obtain ⟨st1, nB, ff, oe, vs, T, oT, ts, he, hz, hd, hv1, hnT, hTe, hT, hdT, hv3⟩ := hh
  have aC : a ≠ ce.locals := fun z => by rw [z, hoC] at nB; cases nB
  have TC : T ≠ ce.locals := fun z => by rw [z, hoC] at hnT; cases hnT
  have hid : ∀ {b : Addr}, B.get? b = none → (PySem.W.hideAll B [ce.locals]).get? b = none := fun {b} q => by
    cases z : (PySem.W.hideAll B [ce.locals]).get? b with
    | none => rfl
    | some o =>
      have z := PySem.W.of_hideAll _ z
      rw [q] at z; cases z
  have off : ∀ {G : Heap} {b : Addr} {o : Obj}, (PySem.W.hideAll G [ce.locals]).get? b = some o → G.get? b = some o ∧ b ≠ ce.locals := fun {G b o} q => by
    refine ⟨PySem.W.of_hideAll _ q, fun z => ?_⟩
    rw [PySem.W.hideAll_none [ce.locals] (by rw [z]; exact List.mem_cons_self)] at q
    cases q
  have held : HandSPX.HeldZ (PySem.W.hideAll B [ce.locals]) (X.env :: X.outer) a (Zc cls d) X.env.locals h2 := by
    refine ⟨fun b o q => ?_, hid nB, frames_but sb (by rw [← hs]; exact neC) ff, oe, vs, T, oT, ts, (sb.2 a aC).trans he, hz, hd, hv1, hid hnT, hTe, (sb.2 T TC).trans hT, hdT, hv3⟩
    obtain ⟨q1, q2⟩ := off q
    exact (sb.2 b q2).trans (st1 b o q1)
  unfold PySem.passOn
  have he2 := (sb.2 a aC).trans he
  refine wpAny_bind (wpAny_field he2 hd hv1 ?_)
  rw [if_neg (show ¬ ((Value.ref T == .none) = true) from by simp)]
  rw [hcf, hf]
  refine wpAny_bind (HandSPX.setFlight_onZ held fun h3 held3 up3 => wpAny_throw (tk _ _ ?_))
  refine ⟨a, PySem.W.hideAll B [ce.locals], { sI with heap := PySem.W.hideAll sI.heap [ce.locals] }, pins, σ, H2, cls, d, rfl, ?_, fun b o q hb => ?_, fun b o q hd' => ?_, .inr (.inr (by rw [hs]; exact held3)), na, os, ag, w⟩
  · have I7 : Inv X pins σ H2 sI := I3.call' (ch := fp) J.os J.base J.hok J.bare fun b hb => ⟨(f3 b hb).1.2.2.2.1, (f3 b hb).1.2.1, (f3 b hb).1.2.2.2.2.1, (f3 b hb).1.2.2.2.2.2⟩
    exact I7.turned (t' := sI.toks) (fun b o hb q => PySem.W.hideAll_get [ce.locals] q (by simpa using hb)) g0 g1 g3 g4 g5
  · obtain ⟨q1, q2⟩ := off q
    exact PySem.W.hideAll_get [ce.locals] (nb b o q1 hb) (by simpa using q2)
  · obtain ⟨q1, q2⟩ := off q
    obtain ⟨sl1, r1⟩ := up b o q1 hd'
    obtain ⟨sl2, r2⟩ := up1 b _ r1 hd'
    obtain ⟨sl3, r3⟩ := up3 b _ ((sb.2 b q2).trans r2) hd'
    exact ⟨sl3, r3⟩
/-- [elt for target in iter], the element by the exits that it may take -/
def tLcX (wi : TI) (g : TG) (te : Lv → TE) (W : WX) (vs io : List Nat) : TE := fun σ H Q => wi σ H fun J H1 => ∀ D, H1 D = none → ∃ P : Nat → Nat → Hp → Prop, (∃ m, P 0 m (upd H1 D (.lst []))) ∧ ∀ i m H, P i m H →
  (J.stop i H ∧ Q (.ref D) H) ∨ (J.go i H ∧ ∃ Nx : Hp → Prop, (∀ H', Nx H' → ∃ m', m' < m ∧ P (i + 1) m' H') ∧ ∀ x H', J.yld i H x H' → g x (wipe σ vs) H' fun σ2 H2 => wipe σ2 vs = wipe σ vs ∧
    te ⟨fun cls d _ H' => W cls d σ H', io, σ⟩ σ2 H2 fun y H4 => ∃ acc, H4 D = some (.lst acc) ∧ acc.length < sizeLine ∧ Nx (upd H4 D (.lst (acc ++ [y]))))
theorem pe_lcX {elt tg iter : Expr} {scope : Scope} {own : List (Str × Nat)} {io : List Nat} {pos : Pos} {wi : TI} {g : TG} {te : Lv → TE} (hc : X.calm = true) (hN : X.N.Nodup) (hs : X.stack = X.env :: X.outer) (hf : X.env.frame = some X.env.locals) (tk : Takes X W)
    (hi : PI X tg iter wi) (ok : BlkOk X.N X.env.scope scope own) (hg : ∀ (s : Shared) (H : Hp) (C : Addr) (cl : List (Str × Addr)) (fp : List Addr) (xe : Value → Shared → Prop), PG (blkX X s H scope (compEnvC scope cl C X.env) fp xe) tg g)
    (he : ∀ (s : Shared) (H : Hp) (C : Addr) (cl : List (Str × Addr)) (fp : List Addr) (xe : Value → Shared → Prop) (Lb : Lv), (∀ σ, PassesAt (L2.CX X.prog X.w) (blkX X s H scope (compEnvC scope cl C X.env) fp xe) σ (fun cls d H' => Lb.E cls d σ H')) →
      PE (blkX X s H scope (compEnvC scope cl C X.env) fp xe) elt (te Lb)) (hfold : ∀ x, foldedSetIterable iter X.env x = pure x := by intro _; rfl) :
    PE X (.ListComp elt [⟨tg, iter, [], 0⟩] scope pos) (tLcX wi g te W (own.map (·.2)) io) := by
  refine ⟨fun pn0 s σ H Q I h => ?_⟩
  rw [eval_ListComp]
  have fr : ∀ y ∈ scope.names, y.2 = .free → ∃ c, X.env.cells.lookup y.1 = some c := fun y hy e => (ok.free y hy e).elim (fun k => I.ok.has _ (.inl k)) fun k => I.ok.has _ (.inr k)
  refine comp_runs rfl hfold (closure_ok fr) ok.kind (fun y hy e => by rw [ok.uniq y hy, e]) (thn (hi.run pn0 s σ H _ I h) fun xv sa ha => thn ha fun itv sb hb => ?_)
  obtain ⟨it, fp, tn, J, Hb, rfl, Ib, T, stb, fb, q⟩ := hb
  refine wpAny_newObj_type (newEnv_comp ?_) (Nat.zero_le sizeLine)
  obtain ⟨D, hD⟩ : ∃ D, D = sb.heap.objs.size := ⟨_, rfl⟩
  rw [← hD]
  have Dn : Hb D = none := Ib.hok.fresh (Nat.le_of_eq hD.symm)
  obtain ⟨P, ⟨m0, p0⟩, turn⟩ := q D Dn
  obtain ⟨sc, hsc⟩ : ∃ sc : Shared, sc = { sb with heap := sb.heap.push { cls := .type "list", data := .seq ([] : List Value).toArray } } := ⟨_, rfl⟩
  have hh : sc.heap = sb.heap.push { cls := .type "list", data := .seq ([] : List Value).toArray } := by rw [hsc]
  have Ic : Inv X pn0 σ (upd Hb D (.lst [])) sc := by
    rw [hsc]
    refine Ib.laid (t' := sb.toks) (fun b o e => Heap.get?_push_of_some _ e) (Nat.le_of_eq hD.symm) ⟨Nat.zero_le _, [], 0, .nil, ?_⟩
    rw [hD]
    exact Heap.get?_push_size (sb.heap) rfl
  have below : ∀ b ∈ fp, b < sb.heap.objs.size := fun b hb => by
    obtain ⟨o, e, _⟩ := T.obj _ _ stb b hb
    exact Heap.lt_size e
  have fc : ∀ b ∈ fp, FpOk X pn0 (upd Hb D (.lst [])) b ∧ b < sc.heap.objs.size := fun b hb => by
    refine ⟨⟨?_, (fb b hb).2⟩, by rw [hh, Heap.size_push]; exact Nat.lt_succ_of_lt (below b hb)⟩
    rw [upd_ne (by rw [hD]; exact Nat.ne_of_lt (below b hb))]
    exact (fb b hb).1
  have stc : tn 0 sc.heap := T.keep _ _ _ stb fun b _ o e => by rw [hh]; exact Heap.get?_push_of_some _ e
  have Id := block_start Ic ok hN fc
  rw [← hsc]
  obtain ⟨ce, hce⟩ : ∃ ce, ce = compEnvC scope (cellsFrom (sc.heap.objs.size + 1) scope.names (cloFrom X.env.cells scope.names [])) sc.heap.objs.size X.env := ⟨_, rfl⟩
  have cL : ce.locals = sc.heap.objs.size := by rw [hce]; rfl
  have cF : ce.frame = X.env.frame := by rw [hce]; rfl
  obtain ⟨Hc, hHc⟩ : ∃ Hc, Hc = upd Hb D (.lst []) := ⟨_, rfl⟩
  obtain ⟨xe, hxe⟩ : ∃ xe : Value → Shared → Prop, xe = notedBy (model X.prog X.w) X.A ce fun e sz => EndX (model X.prog X.w) X.A X.xe (EP X pn0 σ Q) (.ref D) ce (.error e) sz := ⟨_, rfl⟩
  have pg := hg sc Hc sc.heap.objs.size (cellsFrom (sc.heap.objs.size + 1) scope.names (cloFrom X.env.cells scope.names [])) fp xe
  have pe := he sc Hc sc.heap.objs.size (cellsFrom (sc.heap.objs.size + 1) scope.names (cloFrom X.env.cells scope.names [])) fp xe ⟨fun cls d _ H' => W cls d σ H', io, σ⟩
  show codeAny _ _ (.compStart (.ListComp elt [⟨tg, iter, [], 0⟩] scope pos) 0 (.ref it) (.ref D) (compEnvC scope (cellsFrom (sc.heap.objs.size + 1) scope.names (cloFrom X.env.cells scope.names [])) sc.heap.objs.size X.env))
    (EndX (model X.prog X.w) X.A X.xe (EP X pn0 σ Q) (.ref D) (compEnvC scope (cellsFrom (sc.heap.objs.size + 1) scope.names (cloFrom X.env.cells scope.names [])) sc.heap.objs.size X.env)) { sc with heap := pushCells (sc.heap.push { cls := .type "dict", data := .dict #[] }) scope.names }
  rw [← hHc] at Ic Id fc p0
  rw [← hce] at Id pg pe ⊢
  have pe := pe fun σ' => by rw [hxe]; exact blk_out hs hf tk Ic cF cL fc σ'
  have Id : Inv (blkX X sc Hc scope ce fp xe) [] (wipe σ (own.map (·.2))) Hc { sc with heap := pushCells (sc.heap.push { cls := .type "dict", data := .dict #[] }) scope.names } := Id.toTry xe
  have nfp : ∀ b ∈ fp, Hc b = none := fun b hb => (fc b hb).1.1
  obtain ⟨sd, hsd⟩ : ∃ sd : Shared, sd = { sc with heap := pushCells (sc.heap.push { cls := .type "dict", data := .dict #[] }) scope.names } := ⟨_, rfl⟩
  rw [← hsd] at Id ⊢
  have std : tn 0 sd.heap := T.keep _ _ _ stc fun b _ o e => by rw [hsd]; exact pushCells_keeps _ _ _ _ (Heap.get?_push_of_some _ e)
  have stat : ∀ {τ : St} {G : Hp} {sz : Shared}, Inv (blkX X sc Hc scope ce fp xe) [] τ G sz → (∀ b ∈ fp, G b = none) → ∀ b ∈ fp, FpOk (blkX X sc Hc scope ce fp xe) [] G b := fun {τ G sz} K hn b hb =>
    ⟨hn b hb, (K.ok.exf b hb).1, K.ok.exfs b hb, .inl hb, fun x c e => (K.ok.exf b hb).2 x c e, fun p hp => absurd (show p ∈ ([] : List (Addr × Obj)) ++ [] from hp) (by simp)⟩
  have loop : codeAny (model X.prog X.w) X.A (.compLoop (.ListComp elt [⟨tg, iter, [], 0⟩] scope pos) 0 (.ref it) (.ref D) ce) (EndX (model X.prog X.w) X.A X.xe (EP X pn0 σ Q) (.ref D) ce) sd := by
    refine compLoop_any (fun n sz => ∃ i G, Inv (blkX X sc Hc scope ce fp xe) [] (wipe σ (own.map (·.2))) G sz ∧ tn i sz.heap ∧ (∀ b ∈ fp, G b = none) ∧ P i n G) ?_ m0 ⟨0, Hc, Id, std, nfp, p0⟩
    rintro n s5 ⟨i, H5, I5, st5, n5, p5⟩
    rw [← hxe]
    rcases turn i n H5 p5 with ⟨stop, qq⟩ | ⟨go, Nx, hNx, step⟩
    · refine thn (T.done (blkX X sc Hc scope ce fp xe) rfl rfl rfl hc i [] s5 _ H5 xe I5 (stat I5 n5) st5 stop) fun r s6 hr => ?_
      obtain ⟨rfl, I6⟩ := hr
      have I7 : Inv X pn0 σ H5 s6 := Ic.call' (ch := fp) I6.os I6.base I6.hok I6.bare fun b hb => ⟨(fc b hb).1.2.2.2.1, (fc b hb).1.2.1, (fc b hb).1.2.2.2.2.1, (fc b hb).1.2.2.2.2.2⟩
      have nC : H5 ce.locals = none := I6.free
      obtain ⟨m, hn, _⟩ := I6.loc
      obtain ⟨g0, g1, g2, g3, g4, g5⟩ : FpOk X pn0 H5 ce.locals := Ic.fpOk (by rw [cL]; exact Nat.le_refl _) nC
      exact ⟨m, hn, fun hz sb' => ⟨.ref D, H5, I7.turned (t' := s6.toks) (fun b o hb e => (sb'.2 b hb).trans e) g0 g1 g3 g4 g5, rfl, qq⟩⟩
    · refine thn (T.item (blkX X sc Hc scope ce fp xe) rfl rfl rfl hc i [] s5 _ H5 xe I5 (stat I5 n5) st5 go) fun r s6 hr => ?_
      obtain ⟨u, rfl, h6⟩ := hr
      refine thn h6 fun _ s7 hx7 => ?_
      obtain ⟨x, H7, I7, r7, y7, st7, n7⟩ := hx7
      have Ip7 := I7.pinned (stat I7 n7) (T.obj _ _ st7)
      refine thn (pg.run _ s7 _ H7 x u _ Ip7 r7 (step x H7 y7)) fun _ s8 hx8 => ?_
      obtain ⟨σ8, H8, I8, hw8, q8⟩ := hx8
      refine wpAny_tests_nil ?_
      rw [if_pos rfl]
      refine thn (pe.run _ s8 σ8 H8 _ I8 q8) fun z s10 hx10 => ?_
      obtain ⟨yv, H10, I10, r10, acc, hD10, hz10, nx⟩ := hx10
      refine app_ok (X := blkX X sc Hc scope ce fp xe) I10 hD10 hz10 r10 fun s11 I11 => ?_
      obtain ⟨m', hm, p'⟩ := hNx _ nx
      have pin' : ∀ b ∈ fp, ∀ o, s7.heap.get? b = some o → s11.heap.get? b = some o ∧ (upd H10 D (.lst (acc ++ [yv]))) b = none := fun b hb o e =>
        let z := I11.pin (b, o) (List.mem_append_right _ (List.mem_append_right _ (mem_pinsAt hb e)))
        ⟨z.1, z.2.1⟩
      have hlx : (wipe σ (own.map (·.2))).length = σ8.length := by rw [← hw8, wipe_length]
      refine ⟨m', hm, i + 1, _, (I11.unpinned (pins := [])).weak hlx (fun j v e => ?_), T.keep _ _ _ st7 fun b hb o e => (pin' b hb o e).1, fun b hb => ?_, p'⟩
      · rw [← hw8] at e
        exact (wipe_some e).1
      · obtain ⟨ob, eb, _⟩ := T.obj _ _ st7 b hb
        exact (pin' b hb ob eb).2
  exact codeAny_compStart_list loop (T.self X.A 0 _ _ _ std loop)
/-- [e for .. in it], the element may let an error out -/
def fLcX (it : FI) (g : FG) (wp : List Nat) (e : FE) : FE := fun X s Q => it X s fun xs s1 => xs.length ≤ sizeLine ∧ fComp (fun n s' => X n (wipeS s' wp)) g wp fYes e Q xs [] (wipeS s1 wp)
def ioX (L : Lv) (vs : List Nat) : List Nat := (List.range L.σ0.length).filter fun k => decide (k ∉ vs)
theorem fLcX_ok {L : Lv} {fi : FI} {fg : FG} {fa : FE} {vs : List Nat} {Q : VK} (hv : ∀ j ∈ vs, j ∉ L.io) (h : liftE X L (fLcX fi fg vs fa) σ H Q) :
    tLcX (liftI X L fi) (liftG X L.in0 vs fg) (fun Lb => liftE X Lb fa) L.E vs (ioX L vs) σ H Q := by
  obtain ⟨Z, Y, s, Xf, Qf, r, k, xo, h, q⟩ := h
  refine ⟨Z, Y, s, Xf, _, r, k, xo, h, fun J H1 Z1 s1 xs hz rl wk ⟨hsz, hcomp⟩ => fun D hD => ?_⟩
  have kw : L.keeps (wipe σ vs) := ⟨by rw [wipe_length]; exact k.1, fun j hj => by
    rw [wipe_get, if_neg (fun z => hv j z hj)]
    exact k.2 j hj⟩
  refine ⟨fun i m H' => ∃ Z' s' acc avs, Same Z1 Z' ∧ Rel X.K Z' Y H' (wipe σ vs ++ [some (.ref D)]) (s' ++ [.l acc]) ∧ s'.length = σ.length ∧ (∀ j ∈ vs, s'.getD j .no = .no) ∧ H' D = some (.lst avs) ∧ avs.length ≤ i ∧ m = xs.length - i ∧ i ≤ xs.length ∧ fComp (fun n s' => Xf n (Hs.wipeS s' vs)) fg vs fYes fa Qf (xs.drop i) acc s',
    ⟨xs.length, Z1, wipeS s1 vs, [], [], Same.refl _, Rel.wipe2 (rl.newL (vs := []) (xs := []) hD (Nat.zero_le _) .nil) rl.len vs, by rw [wipeS_len]; exact rl.len.symm, fun j hj => by rw [wipeS_get, if_pos hj], upd_same, Nat.le_refl _, rfl, Nat.zero_le _, hcomp⟩, ?_⟩
  rintro i m H' ⟨Z', s', acc, avs, hz', r', hl', hno, hDl, hal, rfl, hle, hl⟩
  have hl'' : (wipe σ vs).length = s'.length := by rw [wipe_length, hl']
  by_cases hlt : i < xs.length
  · refine .inr ⟨wk.go i H' (hz'.trans r'.zh) hlt, fun H2 => ∃ Z2 s2 acc2 avs2, Same Z' Z2 ∧ Rel X.K Z2 Y H2 (wipe σ vs ++ [some (.ref D)]) (s2 ++ [.l acc2]) ∧ s2.length = σ.length ∧ (∀ j ∈ vs, s2.getD j .no = .no) ∧ H2 D = some (.lst avs2) ∧ avs2.length ≤ i + 1 ∧ fComp (fun n s' => Xf n (Hs.wipeS s' vs)) fg vs fYes fa Qf (xs.drop (i + 1)) acc2 s2,
      fun H2 ⟨Z2, s2, acc2, avs2, hz2, r2, l2, n2, d2, al2, h2⟩ => ⟨xs.length - (i + 1), by omega, Z2, s2, acc2, avs2, hz'.trans hz2, r2, l2, n2, d2, al2, rfl, hlt, h2⟩, fun x H2 hy => ?_⟩
    obtain ⟨d, Z2, hd, n⟩ := wk.yld i H' x H2 Z' hz' r'.zh hlt hy
    have ed : xs.drop i = d :: xs.drop (i + 1) := by
      obtain ⟨h1, h2⟩ := List.getElem?_eq_some_iff.mp hd
      rw [List.drop_eq_getElem_cons hlt, h2]
    rw [ed] at hl
    have r2 : Rel X.K Z2 Y H2 (wipe σ vs ++ [some (.ref D)]) (s' ++ [.l acc]) := r'.grow n.hh n.hz n.zh n.old
    have hD2 : H2 D = some (.lst avs) := n.hh _ _ hDl
    obtain ⟨Y', hy', rl2, back, held⟩ := r2.frame hl''
    have yD : Y' D = some (.lst avs) := by
      obtain ⟨F, p', v', e1, e2, e3, _⟩ := held 0
      cases e1
      exact e3.trans ((rl2.yh _ _ e3).symm.trans hD2)
    have bk : ∀ Z1 H1 σ1 s1, Same Z2 Z1 → Rel X.K Z1 Y' H1 σ1 s1 → Rel X.K Z1 Y H1 σ1 s1 := fun Z1 H1 σ1 s1 hz q => (back Z1 H1 σ1 s1 hz q).take q.len
    refine ⟨Z2, Y', s', d, _, rl2, kw, n.val, hl, fun σ3 s3 k3 o3 r3 h3 => ⟨(wipe_only o3).trans (wipe_only wipe_wipe), ?_⟩⟩
    have e34 : wipe σ3 vs = wipe σ vs := (wipe_only o3).trans (wipe_only wipe_wipe)
    have h3 : fa (fun n s' => Xf n (Hs.wipeS s' vs)) s3 fun r s3 => frz r s3 fun d s4 => fComp (fun n s' => Xf n (Hs.wipeS s' vs)) fg vs fYes fa Qf (xs.drop (i + 1)) (acc ++ [d]) (Hs.wipeS s4 vs) := h3
    have kb : Lv.keeps ⟨fun cls d _ H' => L.E cls d σ H', ioX L vs, σ⟩ σ3 := by
      refine ⟨by show σ3.length = σ.length; rw [o3.1, wipe_length], fun j hj => ?_⟩
      have hj : j ∉ vs := of_decide_eq_true (List.mem_filter.mp hj).2
      show σ3.getD j none = σ.getD j none
      rw [List.getD_eq_getElem?_getD, o3.2 j hj, ← List.getD_eq_getElem?_getD, wipe_get, if_neg hj]
    have xb : XOk X ⟨fun cls d _ H' => L.E cls d σ H', ioX L vs, σ⟩ Z2 Y' fun n s' => Xf n (Hs.wipeS s' vs) := fun n' C Z4 H4 σ4 s4 hz4 k4 r4 q4 m4 => by
      have b4 := bk Z4 H4 σ4 s4 hz4 r4
      have o4 : Only vs σ4 σ := by
        refine ⟨k4.1.symm, fun j hj => ?_⟩
        have len : σ4.length = σ.length := k4.1
        by_cases hlt : j < σ.length
        · have z : σ4.getD j none = σ.getD j none := k4.2 j (List.mem_filter.mpr ⟨List.mem_range.mpr (by rw [← k.1]; exact hlt), decide_eq_true hj⟩)
          rw [List.getD_eq_getElem?_getD, List.getD_eq_getElem?_getD, List.getElem?_eq_getElem hlt, List.getElem?_eq_getElem (by rw [len]; exact hlt)] at z
          rw [List.getElem?_eq_getElem hlt, List.getElem?_eq_getElem (by rw [len]; exact hlt)]
          exact congrArg some z.symm
        · rw [List.getElem?_eq_none (by omega), List.getElem?_eq_none (by omega)]
      have w4 : Rel X.K Z4 Y H4 (σ4 ++ []) (Hs.wipeS s4 vs ++ []) := by
        rw [List.append_nil, List.append_nil]
        exact b4.wipeS vs
      have u4 := Rel.unwipe w4 o4 (by rw [wipeS_len]; exact r4.len) fun j hj => by rw [wipeS_get, if_pos hj]
      rw [List.append_nil, List.append_nil] at u4
      exact xo n' C Z4 H4 σ _ ((hz.trans hz').trans (n.hz.trans hz4)) k u4 q4 m4
    refine ⟨Z2, Y', s3, _, _, r3, kb, xb, h3, fun y H5 Z5 r5 s5 hz5 rx5 h5 => ?_⟩
    have hD5 : H5 D = some (.lst avs) := rx5.rel0.yh _ _ yD
    obtain ⟨Z6, d6, s6, hz6, rx6, h6⟩ := frz_ok (us := []) (ds := []) (vs := []) (rs := []) rx5 rfl h5
    have b6 := back Z6 H5 _ _ (hz5.trans hz6) rx6.rel0
    refine ⟨avs, hD5, Nat.lt_of_le_of_lt hal (Nat.lt_of_lt_of_le hlt hsz), Z6, Hs.wipeS s6 vs, acc ++ [d6], avs ++ [y], (n.hz.trans hz5).trans hz6, ?_, by rw [wipeS_len, ← rx6.l1, o3.1, wipe_length], fun j hj => by rw [wipeS_get, if_pos hj], upd_same, by rw [List.length_append]; exact Nat.succ_le_succ hal, h6⟩
    have racc : RpAll X.K Z6 avs acc := by
      obtain ⟨F, q⟩ := b6.slot σ3.length
      rw [getD_app_ge (Nat.le_refl _), getD_app_ge (by rw [rx6.l1]; exact Nat.le_refl _), Nat.sub_self, rx6.l1, Nat.sub_self] at q
      obtain ⟨p', v', e1, e2, e3, e4, e5⟩ := q
      cases e1
      rw [hD5] at e3; cases e3
      exact e5
    have w6 := Rel.write (i := σ3.length) (xs' := acc ++ [d6]) (vs' := avs ++ [y]) b6 (by rw [getD_app_ge (by rw [rx6.l1]; exact Nat.le_refl _), rx6.l1, Nat.sub_self]; rfl) (by rw [getD_app_ge (Nat.le_refl _), Nat.sub_self]; rfl)
      (by rw [List.length_append]; exact Nat.succ_le_of_lt (Nat.lt_of_le_of_lt hal (Nat.lt_of_lt_of_le hlt hsz))) (racc.append (.cons rx6.vd .nil))
    rw [List.set_append_right _ _ (by rw [rx6.l1]; exact Nat.le_refl _), rx6.l1, Nat.sub_self] at w6
    have w7 := Rel.wipe2 w6 rx6.l1 vs
    rw [e34] at w7
    exact w7
  · have ei : i = xs.length := by omega
    subst ei
    rw [List.drop_length] at hl
    have r9 : Rel X.K Z' Y H' (σ ++ [some (.ref D)]) (s' ++ [.l acc]) := Rel.unwipe r' (vs := vs) ⟨(wipe_length σ vs).symm, fun j hj => (wipe_wipe.2 j hj).symm⟩ hl'' hno
    exact .inl ⟨wk.stop _ H' (hz'.trans r'.zh) (Nat.le_refl _), q _ H' Z' _ s' (hz.trans hz') (.own hl'.symm r9) hl⟩
theorem pf_lcX {L : Lv} {elt tg iter : Expr} {scope : Scope} {own : List (Str × Nat)} {pos : Pos} {fi : FI} {fg : FG} {fa : FE} (hc : X.calm = true) (hN : X.N.Nodup) (hs : X.stack = X.env :: X.outer) (hf : X.env.frame = some X.env.locals) (tk : Takes X L.E)
    (hi : PFI X L tg iter fi) (ok : BlkOk X.N X.env.scope scope own)
    (hg : ∀ (s : Shared) (H : Hp) (C : Addr) (cl : List (Str × Addr)) (fp : List Addr) (xe : Value → Shared → Prop), PFG (blkX X s H scope (compEnvC scope cl C X.env) fp xe) L.in0 (own.map fun p : Str × Nat => p.2) tg fg)
    (he : ∀ (s : Shared) (H : Hp) (C : Addr) (cl : List (Str × Addr)) (fp : List Addr) (xe : Value → Shared → Prop) (Lb : Lv), (∀ σ, PassesAt (L2.CX X.prog X.w) (blkX X s H scope (compEnvC scope cl C X.env) fp xe) σ (fun cls d H' => Lb.E cls d σ H')) →
      PF (blkX X s H scope (compEnvC scope cl C X.env) fp xe) Lb elt fa) (hv : ∀ j ∈ (own.map fun p : Str × Nat => p.2), j ∉ L.io := by exact of_decide_eq_true rfl) (hfold : ∀ x, foldedSetIterable iter X.env x = pure x := by intro _; rfl) :
    PF X L (.ListComp elt [⟨tg, iter, [], 0⟩] scope pos) (fLcX fi fg (own.map fun p : Str × Nat => p.2) fa) :=
  PE_imp (pe_lcX (own := own) (io := ioX L (own.map fun p : Str × Nat => p.2)) (wi := liftI X L fi) (g := liftG X L.in0 (own.map fun p : Str × Nat => p.2) fg) (te := fun Lb => liftE X Lb fa) hc hN hs hf tk hi ok hg he hfold) fun σ H Q h => fLcX_ok hv h
end
end Hs
namespace Hs
open PySem PySem.Spec PyProof.Rows L2
/-- a method of a text with one argument -/
def fTxt (g : V2) (a b : FE) : FE := fun X s Q => a X s fun r1 s1 => look s1 r1 fun d0 => (∃ z, d0 = .str z) ∧ b X s1 fun r2 s2 => look s2 r1 fun d => look s2 r2 fun e => g d e fun r => Q r s2
def rTx (K : PySem.W.Frag) (g : V2) : V → List V → Hp → VK → Prop := fun x xs H Q => ∃ y, xs = [y] ∧ rF2 K g x y H Q
/-- text.split(sep) -/
def gSplit : V2 := fun d e Q => match d, e with
  | .str a, .str b => (b.length == 0) = false ∧ a.length + 2 ≤ sizeLine ∧ (Txt.split a b).length ≤ sizeLine ∧ Q (.own (.l ((Txt.split a b).map .str)))
  | _, _ => False
/-- sep.join(texts) -/
def gJoin : V2 := fun d e Q => match d, e with
  | .str a, .list xs => ∃ ys : List Str, xs = ys.map .str ∧ (ys.map (·.length)).sum + ys.length * a.length ≤ 16777216 ∧ Q (.d (.str (Txt.join a ys)))
  | _, _ => False
/-- c in z, c one sign -/
def cInS : V2 := fun d e Q => (∃ (c : Nat) (z : Str), d = .str ⟨#[c]⟩ ∧ e = .str z ∧ Q (.d (.bool (decide (c ∈ z.cps.toList))))) ∨ cIn d e Q
/-- int(text) -/
def bIntS : VN := fun ds Q => (∃ (a : Str) (n : Int), ds = [.str a] ∧ PySem.intText? a = some n ∧ a.length ≤ 640 ∧ Q (.d (.int n))) ∨ bInt ds Q
/-- the signs of a text -/
def signsD (z : Str) : List D := z.cps.toList.map fun c => .str ⟨#[c]⟩
def iStrD (a : FE) : FI := fun X s Q => a X s fun r s1 => frz r s1 fun d s2 => match d with
  | .str z => Q (signsD z) s2
  | _ => False
theorem rps_strs {K : PySem.W.Frag} {Z : Hp} : ∀ ys : List Str, RpAll K Z (ys.map V.str) (ys.map PyData.str)
  | [] => .nil
  | y :: ys => .cons (.str y) (rps_strs ys)
section
variable {X : Cx} {L : Lv} {a b e o : Expr} {fa fb : FE} {g : V2} {pos apos p : Pos}
theorem fTxt_ok {σ : St} {H : Hp} {Q : VK} (h : liftE X L (fTxt g fa fb) σ H Q) : tM1 (rTx X.K g) (liftE X L fa) (liftE X L fb) σ H Q := by
  obtain ⟨Z, Y, s, Xf, Qf, r, k, xo, h, q⟩ := h
  refine ⟨Z, Y, s, Xf, _, r, k, xo, h, fun v H1 Z1 r1 s1 hz rx h1 => ?_⟩
  obtain ⟨d0, e0, ⟨z, rfl⟩, h1⟩ := look_ok h1
  obtain ⟨v0, ev0, rv0⟩ := rx.look (k := 0) rfl e0
  cases ev0
  obtain ⟨Y', hy, rl, bk, fw⟩ := rx.frame
  refine ⟨⟨z, rv0.str⟩, Z1, Y', s1, Xf, _, rl, k, (xo.z hz).mono (Same.refl _) bk, h1, fun w H2 Z2 r2 s2 hz2 rx2 h2 => ?_⟩
  have rx3 := fw Z2 H2 s2 [w] [r2] hz2 rx2
  obtain ⟨d, e1, h3⟩ := look_ok h2
  obtain ⟨e', e2, h4⟩ := look_ok h3
  obtain ⟨v', ev, rv⟩ := rx3.look (k := 0) rfl e1
  cases ev
  obtain ⟨w', ew, rw'⟩ := rx3.look (k := 1) rfl e2
  cases ew
  exact ⟨w, rfl, Z2, d, e', _, rx3.rel0.zh, rv, rw', h4, fun u H' Z' r n hq => q u H' Z' r s2 ((hz.trans hz2).trans n.hz) (rx3.rel0.new n) hq⟩
theorem pf_txt {id : String} {name : Str} (slot : Slot "str" name id) (ty : typeOf (.builtin id) = pure (.type "method_descriptor")) (rule : MtR X id (rTx X.K g)) (ho : PF X L o fa) (he : PF X L e fb)
    (hs : starEach [e] X.env = [(false, eval e X.env)] := by rfl) (hbase : attributeBase o name X.env (eval o X.env) = eval o X.env := by rfl) (hline : (apos.endLine == pos.line) = true := by rfl) :
    PF X L (.Call (.Attribute o name apos) [e] [] pos) (fTxt g fa fb) := PE_imp (pe_m1 slot ty rule ho he hs hbase hline) fun _ _ _ => fTxt_ok
theorem fr_split : MtR X "str.split" (rTx X.K gSplit) := by
  intro pins s σ H x us v vs Q I rx rv ⟨y, e, Z, d, e', Qf, hz, rd, re, g, q⟩
  unfold gSplit at g
  split at g
  · subst e
    cases rd.str
    cases re.str
    refine mt_split pins s σ H _ _ v vs Q I rx rv ⟨_, _, rfl, rfl, g.1, g.2.1, fun n hn => q _ _ Z _ (.lst hz hn (by rw [List.length_map]; exact g.2.2.1) (rps_strs _)) g.2.2.2⟩
  · exact g.elim
theorem fr_join : MtR X "str.join" (rTx X.K gJoin) := by
  intro pins s σ H x us v vs Q I rx rv ⟨y, e, Z, d, e', Qf, hz, rd, re, g, q⟩
  unfold gJoin at g
  split at g
  · subst e
    obtain ⟨ys, rfl, hsum, g⟩ := g
    cases rd.str
    obtain ⟨p, ws, rfl, h1, h2, h3⟩ := re.list hz
    have ew := h3.strs
    subst ew
    refine mt_join pins s σ H _ _ v vs Q I rx rv ⟨_, p, ys, rfl, rfl, .inl (.inl h1), hsum, q _ H Z _ (.d hz (.str _)) g⟩
  · exact g.elim
theorem fop_inS (hu : X.A.units + 65 < cLine) : OpR X (compareOp .In) (rF2 X.K cInS) := by
  intro pins s σ H x y v u Q I rx ry ⟨Z, d, e, Qf, hz, hd, he, g, q⟩
  rcases g with ⟨c, z, rfl, rfl, g⟩ | g
  · cases hd.str
    cases he.str
    exact op_in_sign pins s σ H _ _ v u Q I rx ry ⟨c, z, rfl, rfl, q _ H Z _ (.d hz (.bl _)) g⟩
  · exact fop_in hu pins s σ H x y v u Q I rx ry ⟨Z, d, e, Qf, hz, hd, he, g, q⟩
theorem fb_intS : CallR X (.type "int") (rFN X.K bIntS) := by
  intro pins s σ H vs us Q I rv ⟨Z, ds, Qf, hz, rr, g, q⟩
  rcases g with ⟨a, n, rfl, h1, h2, g⟩ | g
  · obtain ⟨v, rfl, r1⟩ := rr.one
    cases r1.str
    exact call_int_str pins s σ H _ us Q I rv ⟨a, n, rfl, h1, h2, q _ H Z _ (.d hz (.int _)) g⟩
  · exact fb_int pins s σ H vs us Q I rv ⟨Z, ds, Qf, hz, rr, g, q⟩
theorem signsD_len {z : Str} : (signsD z).length = z.cps.size := by unfold signsD; rw [List.length_map]; simp
theorem walks_str {K : PySem.W.Frag} {Z : Hp} {z : Str} : Walks K Z (Its z) (signsD z) where
  stop := fun i H e hi => by rw [signsD_len] at hi; exact hi
  go := fun i H e hi => by rw [signsD_len] at hi; exact hi
  yld := fun i H v H' Zc e1 e2 hi ⟨eh, c, hc, hv⟩ => by
    subst eh hv
    refine ⟨.str ⟨#[c]⟩, Zc, ?_, .d e2 (.str _)⟩
    unfold signsD
    rw [List.getElem?_map, Array.getElem?_toList, hc]; rfl
theorem pfi_str {tg : Expr} (he : PF X L e fa) : PFI X L tg e (iStrD fa) := PI_imp (pi_str he) fun σ H R ⟨Z, Y, s, Xf, Qf, r, k, xo, h, q⟩ => by
  refine ⟨Z, Y, s, Xf, _, r, k, xo, h, fun v H1 Z1 r1 s1 hz rx h1 => ?_⟩
  obtain ⟨Z2, d, s2, hz2, rx2, h2⟩ := frz_ok (us := []) (ds := []) (vs := []) (rs := []) rx rfl h1
  have rv := rx2.vd
  cases rv with
  | str z => exact ⟨z, rfl, q _ H1 Z2 s2 _ (hz.trans hz2) rx2.rel0 walks_str h2⟩
  | _ => exact h2.elim
end
theorem st_txt {g : V2} {a b : FE} {X : XF} {s : S} {Q : R → S → Prop} (h : a X s fun r1 s1 => look s1 r1 fun d0 => (∃ z, d0 = .str z) ∧ b X s1 fun r2 s2 => look s2 r1 fun d => look s2 r2 fun e => g d e fun r => Q r s2) : fTxt g a b X s Q := h
theorem st_split {a b : Str} {k : R → Prop} (h1 : (b.length == 0) = false) (h2 : a.length + 2 ≤ sizeLine) (h3 : (Txt.split a b).length ≤ sizeLine) (h : k (.own (.l ((Txt.split a b).map .str)))) : gSplit (.str a) (.str b) k := ⟨h1, h2, h3, h⟩
theorem st_in_sign {c : Nat} {z : Str} {k : R → Prop} (h : k (.d (.bool (decide (c ∈ z.cps.toList))))) : cInS (.str ⟨#[c]⟩) (.str z) k := .inl ⟨c, z, rfl, rfl, h⟩
theorem st_int_s {a : Str} {n : Int} {k : R → Prop} (h1 : PySem.intText? a = some n) (h2 : a.length ≤ 640) (h : k (.d (.int n))) : bIntS [.str a] k := .inl ⟨a, n, rfl, h1, h2, h⟩
end Hs
namespace Hs
open PySem PySem.Spec PyProof.Rows L2
/-- slices, of texts too -/
def slS (d : D) (lo hi : Option Int) (Q : R → Prop) : Prop := (∃ z, d = .str z ∧ z.length ≤ sizeLine ∧ Q (.d (.str (Txt.slice z lo hi)))) ∨ slD d lo hi Q
/-- text.find(sub) -/
def gFind : V2 := fun d e Q => match d, e with
  | .str a, .str b => Q (.d (.int (Txt.find a b)))
  | _, _ => False
section
variable {X : Cx} {L : Lv} {a b e o : Expr} {fa fb : FE} {pos apos p : Pos}
theorem fslS : SlR X (rFs X.K slS) := by
  intro pins s σ H x v vl vu lo hi sl Q I rx hs pl pu ⟨Z, d, Qf, hz, hd, g, q⟩
  rcases g with ⟨z, rfl, g1, g2⟩ | g
  · cases hd.str
    exact C8.sl_txt pins s σ H _ v vl vu lo hi sl Q I rx hs pl pu ⟨z, rfl, g1, q _ H Z _ (.d hz (.str _)) g2⟩
  · exact fsl pins s σ H x v vl vu lo hi sl Q I rx hs pl pu ⟨Z, d, Qf, hz, hd, g, q⟩
theorem pf_slS {lo hi : Option Expr} {fl fh : FO} {p2 : Pos} (he : PF X L e fa) (hl : PFO X L lo fl) (hh : PFO X L hi fh) : PF X L (.Subscript e (.Slice lo hi none p2) pos) (fSl slS fa fl fh) := PE_imp (pe_slice fslS he hl hh) fun _ _ _ => fSl_ok
theorem fr_find : MtR X "str.find" (rTx X.K gFind) := by
  intro pins s σ H x us v vs Q I rx rv ⟨y, e, Z, d, e', Qf, hz, rd, re, g, q⟩
  unfold gFind at g
  split at g
  · subst e
    cases rd.str
    cases re.str
    exact mt_find pins s σ H _ _ v vs Q I rx rv ⟨_, _, rfl, rfl, q _ H Z _ (.d hz (.int _)) g⟩
  · exact g.elim
end
theorem st_sl_s {z : Str} {lo hi : Option Int} {k : R → Prop} (h1 : z.length ≤ sizeLine) (h : k (.d (.str (Txt.slice z lo hi)))) : slS (.str z) lo hi k := .inl ⟨z, rfl, h1, h⟩
theorem st_find {a b : Str} {k : R → Prop} (h : k (.d (.int (Txt.find a b)))) : gFind (.str a) (.str b) k := h
end Hs
namespace Hs
open PySem PySem.Spec PyProof.Rows L2
/-- text.replace(y, z) -/
def fRepC (a : FE) (y z : Str) : FE := fun X s Q => a X s fun r s1 => look s1 r fun d => ∃ x, d = .str x ∧ x.length + (x.length + 1) * z.length ≤ 16777216 ∧ Q (.d (.str (Txt.replace x y z))) s1
/-- text.upper() -/
def fUpT (a : FE) : FE := fun X s Q => a X s fun r s1 => look s1 r fun d => ∃ x, d = .str x ∧ x.length ≤ 5592405 ∧ Q (.d (.str (Txt.upper x))) s1
def PFt (X : Cx) (L : Lv) (e : Expr) (fe : FE) : Prop := PET X e (liftE X L fe)
def PFAt (X : Cx) (L : Lv) (es : List Expr) (fa : FA) : Prop := PAT X es (liftA X L es.length fa)
def PFSt (X : Cx) (L : Lv) (st : Stmt) (fs : FS) : Prop := PST X st (liftS X L fs)
def PFSst (X : Cx) (L : Lv) (st : List Stmt) (fs : FS) : Prop := PSsT X st (liftS X L fs)
section
variable {X : Cx} {L : Lv} {e a b o : Expr} {es : List Expr} {st : Stmt} {rest : List Stmt} {fa fb : FE} {fr : FA} {f1 f2 : FS} {pos apos p c0 c1 : Pos}
theorem PETi {t t' : TE} (h : PET X e t) (hi : ∀ σ H Q, t' σ H Q → t σ H Q) : PET X e t' := fun pins s σ H Q h0 I q => h pins s σ H Q h0 I (hi σ H Q q)
theorem PATi {t t' : TA} (h : PAT X es t) (hi : ∀ σ H Q, t' σ H Q → t σ H Q) : PAT X es t' := fun ps pins s σ H Q h0 I q => h ps pins s σ H Q h0 I (hi σ H Q q)
theorem PSTi {t t' : TS} (h : PST X st t) (hi : ∀ D σ H, t' D σ H → t D σ H) : PST X st t' := fun pins s σ H D h0 I q => h pins s σ H D h0 I (hi D σ H q)
theorem PSsTi {t t' : TS} (h : PSsT X rest t) (hi : ∀ D σ H, t' D σ H → t D σ H) : PSsT X rest t' := fun pins s σ H D h0 I q => h pins s σ H D h0 I (hi D σ H q)
theorem pft_of (h : PF X L e fa) : PFt X L e fa := CwR.PET.of h
theorem pfat_nil : PFAt X L [] fNil := PATi pat_nil fun σ H Q ⟨Z, Y, s, Xf, Qf, r, k, xo, h, q⟩ => q [] H Z [] s (Same.refl _) (.nil r) rfl h
theorem pfat_cons (ha : PFt X L e fa) (hr : PFAt X L es fr) (hs : starEach (e :: es) X.env = (false, eval e X.env) :: starEach es X.env := by rfl) : PFAt X L (e :: es) (fCons fa fr) :=
  PATi (pat_cons ha hr hs) fun σ H Q ⟨Z, Y, s, Xf, Qf, r, k, xo, h, q⟩ => by
  refine ⟨Z, Y, s, Xf, _, r, k, xo, h, fun v H1 Z1 r1 s1 hz rx h1 => ?_⟩
  obtain ⟨Y', hy, rl, bk, fw⟩ := rx.frame
  refine ⟨Z1, Y', s1, Xf, _, rl, k, (xo.z hz).mono (Same.refl _) bk, h1, fun vs H2 Z2 rs s2 hz2 rx2 hn h2 => ?_⟩
  exact q (v :: vs) H2 Z2 (r1 :: rs) s2 (hz.trans hz2) (fw Z2 H2 s2 vs rs hz2 rx2) (by rw [List.length_cons, hn]; rfl) h2
theorem pft_lst (ha : PFAt X L es fr) (hn : es.length ≤ sizeLine := by show _ ≤ 16777216; decide) : PFt X L (.List es pos) (fLst fr) := PETi (pet_lst ha) fun σ H Q ⟨Z, Y, s, Xf, Qf, r, k, xo, h, q⟩ => by
  refine ⟨Z, Y, s, Xf, _, r, k, xo, h, fun vs H1 Z1 rs s1 hz rx hl h1 => ?_⟩
  refine ⟨by rw [rx.l2, hl]; exact hn, fun p hp => ?_⟩
  obtain ⟨Z2, ds, s2, hz2, rx2, h2⟩ := frzAll_ok (us := []) (ds := []) rx rfl h1
  have n : NewR X.K Z2 H1 Z2 (upd H1 p (.lst vs)) (.ref p) (.own (.l ds)) := .lst rx2.rel0.zh hp (by rw [rx.l2, hl]; exact hn) rx2.rps
  exact q (.ref p) _ _ _ s2 ((hz.trans hz2).trans n.hz) (rx2.rel0.new n) h2
theorem pft_op {op : Operator} {g : V2} (ho : OpR X (binaryOp op) (rF2 X.K g)) (ha : PFt X L a fa) (hb : PFt X L b fb) : PFt X L (.BinOp a op b pos) (fOp g fa fb) := PETi (CwR.pet_op ho ha hb) fun _ _ _ => fOp_ok
theorem pft_repC {y z : Str} {j k : Nat} (ho : PF X L o fa) (hyz : (y == z) = false := by decide)
    (hst : starEach [.Constant (.str y) j c0, .Constant (.str z) k c1] X.env = [(false, eval (.Constant (.str y) j c0) X.env), (false, eval (.Constant (.str z) k c1) X.env)] := by rfl)
    (hbase : attributeBase o "replace" X.env (eval o X.env) = eval o X.env := by rfl) (hline : (apos.endLine == pos.line) = true := by rfl) :
    PFt X L (.Call (.Attribute o "replace" apos) [.Constant (.str y) j c0, .Constant (.str z) k c1] [] pos) (fRepC fa y z) := PETi (CwR.pet_replC ho hyz hst hbase hline) fun σ H Q ⟨Z, Y, s, Xf, Qf, r, kk, xo, h, q⟩ => by
  refine ⟨Z, Y, s, Xf, _, r, kk, xo, h, fun v H1 Z1 r1 s1 hz rx h1 => ?_⟩
  obtain ⟨d, e1, x, rfl, hb, h2⟩ := look_ok h1
  obtain ⟨v', ev, rv⟩ := rx.look (k := 0) rfl e1
  cases ev
  exact ⟨x, rv.str, hb, q _ H1 Z1 _ s1 hz (.d rx.rel0 (.str _)) h2⟩
theorem pf_upT (ho : PF X L o fa) (hbase : attributeBase o "upper" X.env (eval o X.env) = eval o X.env := by rfl) (hline : (apos.endLine == pos.line) = true := by rfl) :
    PF X L (.Call (.Attribute o "upper" apos) [] [] pos) (fUpT fa) := PE_imp (pe_upper ho hbase hline) fun σ H Q ⟨Z, Y, s, Xf, Qf, r, kk, xo, h, q⟩ => by
  refine ⟨Z, Y, s, Xf, _, r, kk, xo, h, fun v H1 Z1 r1 s1 hz rx h1 => ?_⟩
  obtain ⟨d, e1, x, rfl, hb, h2⟩ := look_ok h1
  obtain ⟨v', ev, rv⟩ := rx.look (k := 0) rfl e1
  cases ev
  exact ⟨⟨x, rv.str⟩, x, rv.str, rfl, hb, q _ H1 Z1 _ s1 hz (.d rx.rel0 (.str _)) h2⟩
theorem pfst_of (h : PFS X L st f1) : PFSt X L st f1 := PST.of h
theorem pfsst_of (h : PFSs X L rest f1) : PFSst X L rest f1 := PSsT.of h
theorem pfst_set {i : Nat} {x : Str} {pos' : Pos} (hN : X.N.Nodup) (he : PFt X L e fa) (hi : X.N[i]? = some x := by rfl) (hx : Loc X.env.scope x := by first | exact Or.inl rfl | exact Or.inr rfl) (hio : i ∉ L.io := by exact of_decide_eq_true rfl)
    (hs : swapsWith e (some (.Name x pos')) pos.line X.env = pure false := by rfl) (hf : X.fn x = true ∨ X.env.scope.names.lookup x = some .local := by first | exact .inr rfl | exact .inl rfl) :
    PFSt X L (.Assign [.Name x pos'] e pos) (fAsg i fa) := PSTi (t := tAsg (liftE X L fa) (gName i)) (fun pins s σ H D h0 I h => wpAny_Assign_Name (thn (he pins s σ H _ h0 I h) fun v s1 ⟨y, H1, I1, r1, q1⟩ => store_ok I1 hN hi hx r1 (fun s2 I2 => ⟨_, H1, I2, q1⟩) hf) hs)
    fun D σ H ⟨Z, Y, s, Ef, r, k, h, eo⟩ => by
  refine ⟨Z, Y, s, Ef.xx, _, r, k, eo.xx, h, fun v H1 Z1 r1 s1 hz rx h1 => ?_⟩
  obtain ⟨Z2, s2, hz2, rl2, h2⟩ := putR_ok rx h1
  exact eo.nx _ H1 Z2 s2 (hz.trans hz2) (L.keeps_set k hio) rl2 h2
theorem pfsst_cons (h1 : PFSt X L st f1) (h2 : PFSst X L rest f2) : PFSst X L (st :: rest) (fSeq f1 f2) := PSsTi (psst_cons h1 h2) fun D σ H ⟨Z, Y, s, Ef, r, k, h, eo⟩ =>
  ⟨Z, Y, s, _, r, k, h, ⟨fun σ' H' Z' s' hz k' r' h' => ⟨Z', Y, s', Ef, r', k', h', eo.z hz⟩, eo.rt, eo.bk, eo.ct, eo.xx⟩⟩
theorem pfs_strT {i j : Nat} {x c : Str} {cpos pos' : Pos} (hN : X.N.Nodup) (h2 : PFSst X L rest f2) (hi : X.N[i]? = some x := by rfl) (hx : Loc X.env.scope x := by first | exact Or.inl rfl | exact Or.inr rfl) (hio : i ∉ L.io := by exact of_decide_eq_true rfl)
    (hs : swapsWith (.Constant (.str c) j cpos) (some (.Name x pos')) pos.line X.env = pure false := by rfl) (hf : X.fn x = true ∨ X.env.scope.names.lookup x = some .local := by first | exact .inr rfl | exact .inl rfl) :
    PFSs X L (.Assign [.Name x pos'] (.Constant (.str c) j cpos) pos :: rest) (fSeq (fAsg i (fC (.str c))) f2) := PSs_imp (pss_str hN hi hx h2 hs hf) fun D σ H ⟨Z, Y, s, Ef, r, k, h, eo⟩ => by
  obtain ⟨Z2, s2, hz2, rl2, h2⟩ := putR_ok (.d r (.str c)) h
  exact ⟨Z2, Y, s2, Ef, rl2, L.keeps_set k hio, h2, eo.z hz2⟩
end
theorem st_repC {a : FE} {y z : Str} {X : XF} {s : S} {Q : R → S → Prop} (h : a X s fun r s1 => look s1 r fun d => ∃ x, d = .str x ∧ x.length + (x.length + 1) * z.length ≤ 16777216 ∧ Q (.d (.str (Txt.replace x y z))) s1) : fRepC a y z X s Q := h
theorem st_upT {a : FE} {X : XF} {s : S} {Q : R → S → Prop} (h : a X s fun r s1 => look s1 r fun d => ∃ x, d = .str x ∧ x.length ≤ 5592405 ∧ Q (.d (.str (Txt.upper x))) s1) : fUpT a X s Q := h
end Hs
namespace Lk55
open PySem PySem.Spec PyProof.Rows L2 Hs
def b__law_e_each_change : FS := fSeq (fAsg 1 (fLst (fNil)))
    (fSeq (fFor (iRange1 (fCons (fOp opAdd (fBlt bLen (fCons (fVar 0) (fNil))) (fC (.int 1))) (fNil))) (gNm 2) [2, 3] (fSeq (fDrop (fLm 1 mAppend (fCons (fOp opAdd (fSl slS (fVar 0) (fNoPart) (fPart (fVar 2))) (fSl slS (fVar 0) (fPart (fOp opAdd (fVar 2) (fC (.int 1)))) (fNoPart))) (fNil))))
    (fFor (iStrD (fC (.str "0123 ;-/,.+pP\n"))) (gNm 3) [3] (fAsg 1 (fOp opAdd (fVar 1) (fLst (fCons (fOp opAdd (fOp opAdd (fSl slS (fVar 0) (fNoPart) (fPart (fVar 2))) (fVar 3)) (fSl slS (fVar 0) (fPart (fOp opAdd (fVar 2) (fC (.int 1)))) (fNoPart))) (fCons (fOp opAdd (fOp opAdd (fSl slS (fVar 0) (fNoPart) (fPart (fVar 2))) (fVar 3)) (fSl slS (fVar 0) (fPart (fVar 2)) (fNoPart))) (fNil)))))))))
    (fRet (fVar 1)))
def m__law_e_each_change : FSem := semOf 1 4 b__law_e_each_change
def b__law_e_text : FS := fSeq (fAsg 1 (fOp opAdd (fC (.str "places ")) (fBlt bStr (fCons (fOp ixD (fVar 0) (fC (.int 0))) (fNil)))))
    (fSeq (fFor (iSeq (fOp ixD (fVar 0) (fC (.int 1)))) (gTp [gNm 2, gNm 3]) [2, 3] (fAsg 1 (fOp opAdd (fOp opAdd (fOp opAdd (fOp opAdd (fVar 1) (fC (.str "; "))) (fBlt bStr (fCons (fVar 2) (fNil)))) (fC (.str "-"))) (fBlt bStr (fCons (fVar 3) (fNil))))))
    (fRet (fVar 1)))
def m__law_e_text : FSem := semOf 1 4 b__law_e_text
def b__law_e_stir : FS := fSeq (fIfS (fB (fOp cGe (fVar 0) (fC (.int 1000000000000000000)))) (fRet (fVar 0)) (fNext))
    (fSeq (fAsg 2 (fOp opMod (fOp opAdd (fOp opAdd (fOp opMul (fOp opMod (fVar 0) (fC (.int 2147483549))) (fC (.int 31337))) (fOp opMul (fVar 1) (fC (.int 26171)))) (fC (.int 59))) (fC (.int 2147483543))))
    (fSeq (fAsg 3 (fOp opMod (fOp opAdd (fOp opAdd (fOp opAdd (fOp opMul (fVar 2) (fVar 2)) (fOp opMul (fOp opMul (fC (.int 419)) (fVar 1)) (fVar 1))) (fOp opMul (fC (.int 7)) (fVar 2))) (fC (.int 3))) (fC (.int 2147483497))))
    (fSeq (fAsg 4 (fOp opMod (fOp opAdd (fOp opAdd (fOp opAdd (fOp opMul (fVar 3) (fVar 3)) (fOp opMul (fC (.int 877)) (fVar 3))) (fVar 2)) (fVar 1)) (fC (.int 2147483489))))
    (fRet (fOp opAdd (fOp opMul (fVar 3) (fC (.int 2147483489))) (fVar 4))))))
def m__law_e_stir : FSem := semOf 2 5 b__law_e_stir
def b__law_e_dip : FS := fSeq (fIfS (fB (fOp cLt (fOp ixD (fVar 0) (fC (.int 2))) (fVar 1))) (fSeq (fAsg 2 (fOp ixD (fVar 0) (fC (.int 1))))
    (fSeq (fAsg 3 (fOp opAdd (fOp opMul (fC (.int 11)) (fVar 2)) (fC (.int 5))))
    (fSeq (fIfS (fB (fOp cLt (fVar 2) (fBlt bLen (fCons (fOp ixD (fVar 0) (fC (.int 0))) (fNil))))) (fAsg 3 (fOp ixD (fOp ixD (fVar 0) (fC (.int 0))) (fVar 2))) (fIfS (fB (fOp cGt (fBlt bLen (fCons (fOp ixD (fVar 0) (fC (.int 0))) (fNil))) (fC (.int 0)))) (fAsg 3 (fOp opAdd (fOp opMod (fOp ixD (fOp ixD (fVar 0) (fC (.int 0))) (fOp opMod (fOp opAdd (fOp opMul (fC (.int 5)) (fVar 2)) (fC (.int 2))) (fBlt bLen (fCons (fOp ixD (fVar 0) (fC (.int 0))) (fNil))))) (fC (.int 777777769))) (fOp opMul (fVar 2) (fC (.int 5000011))))) (fNext)))
    (fSeq (fSetIx 0 (fC (.int 1)) (fOp opAdd (fVar 2) (fC (.int 1))))
    (fSetIx 0 (fC (.int 2)) (fCall m__law_e_stir [false, false] (fCons (fVar 3) (fCons (fVar 2) (fNil))))))))) (fNext))
    (fSeq (fAsg 4 (fOp opMod (fOp ixD (fVar 0) (fC (.int 2))) (fVar 1)))
    (fSeq (fSetIx 0 (fC (.int 2)) (fOp opFdiv (fOp ixD (fVar 0) (fC (.int 2))) (fVar 1)))
    (fRet (fVar 4))))
def m__law_e_dip : FSem := semOf 2 5 b__law_e_dip
def b__law_e_web_of : FS := fSeq (fAsg 2 (fCall m__law_e_dip [true, false] (fCons (fVar 0) (fCons (fC (.int 7)) (fNil)))))
    (fSeq (fAsg 3 (fLst (fNil)))
    (fSeq (fFor (iRange1 (fCons (fVar 1) (fNil))) (gNm 4) [4, 5] (fFor (iRange2 (fCons (fOp opAdd (fVar 4) (fC (.int 1))) (fCons (fVar 1) (fNil)))) (gNm 5) [5] (fIfS (fB (fOp cLt (fCall m__law_e_dip [true, false] (fCons (fVar 0) (fCons (fC (.int 6)) (fNil)))) (fVar 2))) (fDrop (fLm 3 mAppend (fCons (fTup (fCons (fVar 4) (fCons (fVar 5) (fNil)))) (fNil)))) (fNext))))
    (fRet (fTup (fCons (fVar 1) (fCons (fBlt bTuple (fCons (fVar 3) (fNil))) (fNil)))))))
def m__law_e_web_of : FSem := semOf 2 6 b__law_e_web_of
def b__law_e_web : FS := fSeq (fAsg 2 (fCall m__law_e_dip [true, false] (fCons (fVar 0) (fCons (fOp opAdd (fVar 1) (fC (.int 1))) (fNil)))))
    (fRet (fCall m__law_e_web_of [true, false] (fCons (fVar 0) (fCons (fVar 2) (fNil)))))
def m__law_e_web : FSem := semOf 2 3 b__law_e_web
def b__law_e_bent : FS := fSeq (fAsg 2 (fC (.str " !\"#$&'()*+,-./0123456789:;<=>?@ABCDEFGHIJKLMNOPQRSTUVWXYZ[\\]^_`abcdefghijklmnopqrstuvwxyz{|}~\t\n")))
    (fSeq (fAsg 3 (fCall m__law_e_dip [true, false] (fCons (fVar 0) (fCons (fOp opAdd (fBlt bLen (fCons (fVar 1) (fNil))) (fC (.int 1))) (fNil)))))
    (fSeq (fAsg 4 (fOp ixD (fVar 2) (fCall m__law_e_dip [true, false] (fCons (fVar 0) (fCons (fBlt bLen (fCons (fVar 2) (fNil))) (fNil))))))
    (fSeq (fAsg 5 (fLst (fCons (fOp opAdd (fOp opAdd (fSl slS (fVar 1) (fNoPart) (fPart (fVar 3))) (fVar 4)) (fSl slS (fVar 1) (fPart (fOp opAdd (fVar 3) (fC (.int 1)))) (fNoPart))) (fCons (fOp opAdd (fOp opAdd (fSl slS (fVar 1) (fNoPart) (fPart (fVar 3))) (fVar 4)) (fSl slS (fVar 1) (fPart (fVar 3)) (fNoPart))) (fCons (fOp opAdd (fVar 1) (fC (.str "; "))) (fCons (fOp opAdd (fVar 1) (fC (.str ";"))) (fNil)))))))
    (fSeq (fAsg 5 (fOp opAdd (fVar 5) (fLst (fCons (fOp opAdd (fC (.str " ")) (fVar 1)) (fCons (fOp opAdd (fOp opAdd (fVar 1) (fC (.str "; "))) (fVar 1)) (fCons (fOp opAdd (fVar 1) (fC (.str "; 0-1"))) (fCons (fOp opAdd (fVar 1) (fC (.str "; 9-10"))) (fCons (fOp opAdd (fVar 1) (fC (.str "; 08-9"))) (fNil)))))))))
    (fSeq (fAsg 5 (fOp opAdd (fVar 5) (fLst (fCons (fOp opAdd (fVar 1) (fC (.str "; 0-1-2"))) (fCons (fOp opAdd (fVar 1) (fC (.str "; 1000000-1"))) (fCons (fOp opAdd (fVar 1) (fC (.str "; 999999-1"))) (fCons (fRepC (fVar 1) "; " ";") (fNil))))))))
    (fSeq (fAsg 5 (fOp opAdd (fVar 5) (fLst (fCons (fUpT (fVar 1)) (fCons (fSl slS (fVar 1) (fNoPart) (fPart (fVar 3))) (fCons (fOp opAdd (fVar 1) (fC (.str " "))) (fNil)))))))
    (fRet (fOp ixD (fVar 5) (fCall m__law_e_dip [true, false] (fCons (fVar 0) (fCons (fBlt bLen (fCons (fVar 5) (fNil))) (fNil))))))))))))
def m__law_e_bent : FSem := semOf 2 6 b__law_e_bent
def b__law_e_kind : FS := fSeq (fAsg 1 (fLst (fCons (fC (.str "fold")) (fCons (fC (.str "number")) (fCons (fC (.str "place")) (fCons (fC (.str "row")) (fCons (fC (.str "text")) (fCons (fC (.str "tie")) (fCons (fC (.str "wants")) (fCons (fC (.str "web")) (fCons (fC (.str "many")) (fNil))))))))))))
    (fSeq (fAsg 2 (fLst (fCons (fUn (bIsX [("NoText", false), ("NoWeb", false)]) (fVar 0)) (fCons (fUn (bIsX [("NoText", false), ("NoWeb", false)]) (fVar 0)) (fCons (fUn (bIsX [("NoText", false), ("NoWeb", false)]) (fVar 0)) (fNil))))))
    (fSeq (fAsg 2 (fOp opAdd (fVar 2) (fLst (fCons (fUn (bIsX [("NoText", false), ("NoWeb", false)]) (fVar 0)) (fCons (fUn (bIsX [("NoText", true), ("NoWeb", false)]) (fVar 0)) (fCons (fUn (bIsX [("NoText", false), ("NoWeb", false)]) (fVar 0)) (fNil)))))))
    (fSeq (fAsg 2 (fOp opAdd (fVar 2) (fLst (fCons (fUn (bIsX [("NoText", false), ("NoWeb", false)]) (fVar 0)) (fCons (fUn (bIsX [("NoText", false), ("NoWeb", true)]) (fVar 0)) (fCons (fUn (bIsX [("NoText", false), ("NoWeb", false)]) (fVar 0)) (fNil)))))))
    (fSeq (fIfS (fOr (fB (fOp cNe (fLm 2 mCountB (fCons (fC (.bool true)) (fNil))) (fC (.int 1)))) (fNot (fB (fUn (bIsX [("NoText", true), ("NoWeb", true)]) (fVar 0))))) (fRet (fC (.str "odd"))) (fNext))
    (fRet (fOp ixD (fVar 1) (fLm 2 mIndexB (fCons (fC (.bool true)) (fNil)))))))))
def m__law_e_kind : FSem := semOf 1 3 b__law_e_kind
def b_is_figures : FS := fSeq (fIfS (fOr (fNot (fB (fChain cLe cLe (fC (.int 1)) (fBlt bLen (fCons (fVar 0) (fNil))) (fC (.int 6))))) (fNot (fB (fBlt bAll (fCons (fLc (iStrD (fVar 0)) (gNm 1) [1] (fYes) (fOp cInS (fVar 1) (fC (.str "0123456789")))) (fNil)))))) (fRet (fC (.bool false))) (fNext))
    (fRet (fOrV (fOp cEq (fVar 0) (fC (.str "0"))) (fOp cNe (fOp ixD (fVar 0) (fC (.int 0))) (fC (.str "0")))))
def m_is_figures : FSem := semOf 1 2 b_is_figures
def b_read_number : FS := fSeq (fIfS (fNot (fB (fCall m_is_figures [false] (fCons (fVar 0) (fNil))))) (fRaise "NoText") (fNext))
    (fRet (fBlt bIntS (fCons (fVar 0) (fNil))))
def m_read_number : FSem := semOf 1 1 b_read_number
def b_is_whole : FS := fRet (fAndV (fUn (bIs "int") (fVar 0)) (fNotV (fUn (bIs "bool") (fVar 0))))
def m_is_whole : FSem := semOf 1 1 b_is_whole
def b_is_below : FS := fRet (fAndV (fCall m_is_whole [false] (fCons (fVar 0) (fNil))) (fChain cLe cLt (fC (.int 0)) (fVar 0) (fVar 1)))
def m_is_below : FSem := semOf 2 2 b_is_below
def b_is_rising : FS := fRet (fBlt bAll (fCons (fLc (iRange1 (fCons (fOp opSub (fBlt bLen (fCons (fVar 0) (fNil))) (fC (.int 1))) (fNil))) (gNm 1) [1] (fYes) (fOp cLt (fOp ixD (fVar 0) (fVar 1)) (fOp ixD (fVar 0) (fOp opAdd (fVar 1) (fC (.int 1)))))) (fNil)))
def m_is_rising : FSem := semOf 1 2 b_is_rising
def b_is_tie : FS := fSeq (fIfS (fOr (fNot (fB (fUn (bIs "tuple") (fVar 1)))) (fB (fOp cNe (fBlt bLen (fCons (fVar 1) (fNil))) (fC (.int 2))))) (fRet (fC (.bool false))) (fNext))
    (fRet (fAndV (fCall m_is_below [false, false] (fCons (fOp ixD (fVar 1) (fC (.int 0))) (fCons (fVar 0) (fNil)))) (fAndV (fCall m_is_below [false, false] (fCons (fOp ixD (fVar 1) (fC (.int 1))) (fCons (fVar 0) (fNil)))) (fOp cLt (fOp ixD (fVar 1) (fC (.int 0))) (fOp ixD (fVar 1) (fC (.int 1)))))))
def m_is_tie : FSem := semOf 2 2 b_is_tie
def b_are_ties : FS := fSeq (fIfS (fOr (fNot (fB (fUn (bIs "tuple") (fVar 1)))) (fNot (fB (fBlt bAll (fCons (fLc (iSeq (fVar 1)) (gNm 2) [2] (fYes) (fCall m_is_tie [false, false] (fCons (fVar 0) (fCons (fVar 2) (fNil))))) (fNil)))))) (fRet (fC (.bool false))) (fNext))
    (fRet (fCall m_is_rising [false] (fCons (fVar 1) (fNil))))
def m_are_ties : FSem := semOf 2 3 b_are_ties
def b_is_web : FS := fSeq (fIfS (fOr (fNot (fB (fUn (bIs "tuple") (fVar 0)))) (fB (fOp cNe (fBlt bLen (fCons (fVar 0) (fNil))) (fC (.int 2))))) (fRet (fC (.bool false))) (fNext))
    (fRet (fAndV (fCall m_is_below [false, false] (fCons (fOp ixD (fVar 0) (fC (.int 0))) (fCons (fOp opAdd (fC (.int 10)) (fC (.int 1))) (fNil)))) (fCall m_are_ties [false, false] (fCons (fOp ixD (fVar 0) (fC (.int 0))) (fCons (fOp ixD (fVar 0) (fC (.int 1))) (fNil))))))
def m_is_web : FSem := semOf 1 1 b_is_web
def b_read_tie : FS := fSeq (fAsg 1 (fTxt gSplit (fVar 0) (fC (.str "-"))))
    (fSeq (fIfS (fB (fOp cNe (fBlt bLen (fCons (fVar 1) (fNil))) (fC (.int 2)))) (fRaise "NoText") (fNext))
    (fRet (fTup (fCons (fCall m_read_number [false] (fCons (fOp ixD (fVar 1) (fC (.int 0))) (fNil))) (fCons (fCall m_read_number [false] (fCons (fOp ixD (fVar 1) (fC (.int 1))) (fNil))) (fNil))))))
def m_read_tie : FSem := semOf 1 2 b_read_tie
def b_read_web : FS := fSeq (fAsg 1 (fTxt gSplit (fVar 0) (fC (.str "; "))))
    (fSeq (fAsg 2 (fTxt gSplit (fOp ixD (fVar 1) (fC (.int 0))) (fC (.str " "))))
    (fSeq (fIfS (fOr (fB (fOp cNe (fBlt bLen (fCons (fVar 2) (fNil))) (fC (.int 2)))) (fB (fOp cNe (fOp ixD (fVar 2) (fC (.int 0))) (fC (.str "places"))))) (fRaise "NoText") (fNext))
    (fSeq (fAsg 3 (fTup (fCons (fCall m_read_number [false] (fCons (fOp ixD (fVar 2) (fC (.int 1))) (fNil))) (fCons (fBlt bTuple (fCons (fLcX (iSeq (fSl slD (fVar 1) (fPart (fC (.int 1))) (fNoPart))) (gNm 4) [4] (fCall m_read_tie [false] (fCons (fVar 4) (fNil)))) (fNil))) (fNil)))))
    (fSeq (fIfS (fNot (fB (fCall m_is_web [false] (fCons (fVar 3) (fNil))))) (fRaise "NoWeb") (fNext))
    (fRet (fVar 3))))))
def m_read_web : FSem := semOf 1 5 b_read_web
def b__law_e_told : FS := fSeq (fAsg 1 (fC .none))
    (fSeq (fAsg 2 (fC .none))
    (fSeq (fTry ["NoText", "NoWeb"] 3 (fAsg 2 (fCall m_read_web [false] (fCons (fVar 0) (fNil)))) (fAsg 1 (fVar 3)))
    (fSeq (fIfS (fB (fOp cIs (fVar 1) (fC .none))) (fRet (fVar 2)) (fNext))
    (fRet (fCall m__law_e_kind [false] (fCons (fVar 1) (fNil)))))))
def m__law_e_told : FSem := semOf 1 4 b__law_e_told
def b__law_e_number : FS := fSeq (fIfS (fOr (fB (fOp cLt (fBlt bLen (fCons (fVar 0) (fNil))) (fC (.int 1)))) (fOr (fB (fOp cGt (fBlt bLen (fCons (fVar 0) (fNil))) (fC (.int 6)))) (fNot (fB (fBlt bAll (fCons (fLc (iStrD (fVar 0)) (gNm 1) [1] (fYes) (fOp cInS (fVar 1) (fC (.str "0123456789")))) (fNil))))))) (fRet (fC .none)) (fNext))
    (fSeq (fIfS (fAnd (fB (fOp cEq (fOp ixD (fVar 0) (fC (.int 0))) (fC (.str "0")))) (fB (fOp cNe (fVar 0) (fC (.str "0"))))) (fRet (fC .none)) (fNext))
    (fRet (fBlt bIntS (fCons (fVar 0) (fNil)))))
def m__law_e_number : FSem := semOf 1 2 b__law_e_number
def b__law_e_due : FS := fSeq (fAsg 1 (fTxt gSplit (fVar 0) (fC (.str "; "))))
    (fSeq (fIfS (fB (fOp cNe (fSl slS (fOp ixD (fVar 1) (fC (.int 0))) (fNoPart) (fPart (fC (.int 7)))) (fC (.str "places ")))) (fRet (fC (.str "text"))) (fNext))
    (fSeq (fAsg 2 (fCall m__law_e_number [false] (fCons (fSl slS (fOp ixD (fVar 1) (fC (.int 0))) (fPart (fC (.int 7))) (fNoPart)) (fNil))))
    (fSeq (fAsg 3 (fLst (fNil)))
    (fSeq (fFor (iSeq (fSl slD (fVar 1) (fPart (fC (.int 1))) (fNoPart))) (gNm 4) [4, 5] (fSeq (fAsg 5 (fTxt gFind (fVar 4) (fC (.str "-"))))
    (fSeq (fIfS (fB (fOp cLt (fVar 5) (fC (.int 0)))) (fRet (fC (.str "text"))) (fNext))
    (fDrop (fLm 3 mAppend (fCons (fTup (fCons (fCall m__law_e_number [false] (fCons (fSl slS (fVar 4) (fNoPart) (fPart (fVar 5))) (fNil))) (fCons (fCall m__law_e_number [false] (fCons (fSl slS (fVar 4) (fPart (fOp opAdd (fVar 5) (fC (.int 1)))) (fNoPart)) (fNil))) (fNil)))) (fNil)))))))
    (fSeq (fIfS (fOr (fB (fOp cIs (fVar 2) (fC .none))) (fB (fBlt bAny (fCons (fLc (iSeq (fVar 3)) (gNm 6) [6] (fYes) (fOp cIn (fC .none) (fVar 6))) (fNil))))) (fRet (fC (.str "text"))) (fNext))
    (fSeq (fIfS (fOr (fB (fOp cGt (fVar 2) (fC (.int 10)))) (fB (fBlt bAny (fCons (fLc (iSeq (fVar 3)) (gNm 6) [6] (fYes) (fOrV (fOp cGe2 (fOp ixD (fVar 6) (fC (.int 0))) (fOp ixD (fVar 6) (fC (.int 1)))) (fOp cGe2 (fOp ixD (fVar 6) (fC (.int 1))) (fVar 2)))) (fNil))))) (fRet (fC (.str "web"))) (fNext))
    (fSeq (fIfS (fB (fBlt bAny (fCons (fLc (iRange1 (fCons (fOp opSub (fBlt bLen (fCons (fVar 3) (fNil))) (fC (.int 1))) (fNil))) (gNm 5) [5] (fYes) (fOp cGe2 (fOp ixD (fVar 3) (fVar 5)) (fOp ixD (fVar 3) (fOp opAdd (fVar 5) (fC (.int 1)))))) (fNil)))) (fRet (fC (.str "web"))) (fNext))
    (fRet (fTup (fCons (fVar 2) (fCons (fBlt bTuple (fCons (fVar 3) (fNil))) (fNil))))))))))))
def m__law_e_due : FSem := semOf 1 7 b__law_e_due
def b_need_web : FS := fIfS (fNot (fB (fCall m_is_web [false] (fCons (fVar 0) (fNil))))) (fRaise "NoWeb") (fNext)
def m_need_web : FSem := semOf 1 1 b_need_web
def b_show_tie : FS := fRet (fOp opAdd (fOp opAdd (fBlt bStr (fCons (fOp ixD (fVar 0) (fC (.int 0))) (fNil))) (fC (.str "-"))) (fBlt bStr (fCons (fOp ixD (fVar 0) (fC (.int 1))) (fNil))))
def m_show_tie : FSem := semOf 1 1 b_show_tie
def b_show_web : FS := fSeq (fDrop (fCall m_need_web [false] (fCons (fVar 0) (fNil))))
    (fRet (fTxt gJoin (fC (.str "; ")) (fOp opAdd (fLst (fCons (fOp opAdd (fC (.str "places ")) (fBlt bStr (fCons (fOp ixD (fVar 0) (fC (.int 0))) (fNil)))) (fNil))) (fLc (iSeq (fOp ixD (fVar 0) (fC (.int 1)))) (gNm 1) [1] (fYes) (fCall m_show_tie [false] (fCons (fVar 1) (fNil)))))))
def m_show_web : FSem := semOf 1 2 b_show_web
def b__law_e_shown : FS := fSeq (fAsg 1 (fC .none))
    (fSeq (fTry ["NoText", "NoWeb"] 2 (fDrop (fCall m_show_web [false] (fCons (fVar 0) (fNil)))) (fAsg 1 (fVar 2)))
    (fRet (fAndV (fOp cIsNot (fVar 1) (fC .none)) (fOp cEq (fCall m__law_e_kind [false] (fCons (fVar 1) (fNil))) (fC (.str "web"))))))
def m__law_e_shown : FSem := semOf 1 3 b__law_e_shown
def b_law : FS := fSeq (fAsg 1 (fLst (fCons (fVar 0) (fCons (fC (.int 0)) (fCons (fC (.int 0)) (fNil))))))
    (fSeq (fFor (iRange1 (fCons (fC (.int 2)) (fNil))) (gNm 2) [2, 3, 4, 5] (fSeq (fIfS (fAnd (fB (fOp cGt (fVar 2) (fC (.int 0)))) (fB (fOp cGe (fOp ixD (fVar 1) (fC (.int 1))) (fBlt bLen (fCons (fVar 0) (fNil)))))) (fBreak) (fNext))
    (fSeq (fFor (iSeq (fCall m__law_e_each_change [false] (fCons (fCall m__law_e_text [false] (fCons (fCall m__law_e_web [true, false] (fCons (fVar 1) (fCons (fC (.int 4)) (fNil)))) (fNil))) (fNil)))) (gNm 3) [3] (fIfS (fB (fOp cNe (fCall m__law_e_told [false] (fCons (fVar 3) (fNil))) (fCall m__law_e_due [false] (fCons (fVar 3) (fNil))))) (fRet (fC (.bool false))) (fNext)))
    (fSeq (fAsg 4 (fCall m__law_e_text [false] (fCons (fCall m__law_e_web [true, false] (fCons (fVar 1) (fCons (fC (.int 10)) (fNil)))) (fNil))))
    (fFor (iRange1 (fCons (fC (.int 8)) (fNil))) (gNm 5) [3, 5] (fSeq (fAsg 3 (fCall m__law_e_bent [true, false] (fCons (fVar 1) (fCons (fVar 4) (fNil)))))
    (fIfS (fB (fOp cNe (fCall m__law_e_told [false] (fCons (fVar 3) (fNil))) (fCall m__law_e_due [false] (fCons (fVar 3) (fNil))))) (fRet (fC (.bool false))) (fNext))))))))
    (fSeq (fAsg 6 (fLst (fCons (fC (.str "")) (fCons (fC (.str "places")) (fCons (fC (.str "places ")) (fCons (fC (.str "places 11")) (fCons (fC (.str "places 999999")) (fCons (fC (.str "places 1000000")) (fCons (fC (.str "places 010")) (fCons (fC (.str "places 10")) (fNil)))))))))))
    (fSeq (fAsg 6 (fOp opAdd (fVar 6) (fLst (fCons (fC (.str "places  2")) (fCons (fC (.str "places 2; 1-0")) (fCons (fC (.str "places 2; 0-0")) (fCons (fC (.str "places 2; 0-2")) (fCons (fC (.str "places 2; 0-1; 0-1")) (fNil)))))))))
    (fSeq (fAsg 6 (fOp opAdd (fVar 6) (fLst (fCons (fC (.str "places 3; 0-2; 0-1")) (fCons (fC (.str "place 2")) (fCons (fC (.str "places 2;0-1")) (fCons (fC (.str "places 2; 0-1 ")) (fCons (fC (.str "places 2; 00-1")) (fNil)))))))))
    (fSeq (fAsg 6 (fOp opAdd (fVar 6) (fLst (fCons (fC (.str "places 2; 0 -1")) (fCons (fC (.str "places 2; -1")) (fCons (fC (.str "places 2; 0--1")) (fCons (fC (.str "places 11; x")) (fCons (fC (.str "places 2; 1-0; 0-")) (fNil)))))))))
    (fSeq (fAsg 6 (fOp opAdd (fVar 6) (fLst (fCons (fC (.str "places 999999; 01-2")) (fCons (fC (.str "places 2; 0-2; 1-1-1")) (fNil))))))
    (fSeq (fFor (iSeq (fVar 6)) (gNm 4) [4] (fIfS (fB (fOp cNe (fCall m__law_e_told [false] (fCons (fVar 4) (fNil))) (fCall m__law_e_due [false] (fCons (fVar 4) (fNil))))) (fRet (fC (.bool false))) (fNext)))
    (fSeq (fAsg 7 (fLst (fCons (fC .none) (fCons (fTup (fNil)) (fCons (fTup (fCons (fC (.int 11)) (fCons (fTup (fNil)) (fNil)))) (fCons (fTup (fCons (fC (.int 2)) (fCons (fTup (fCons (fTup (fCons (fC (.int 1)) (fCons (fC (.int 0)) (fNil)))) (fNil))) (fNil)))) (fCons (fTup (fCons (fC (.int 1)) (fCons (fTup (fCons (fTup (fCons (fC (.int 0)) (fCons (fC (.int 1)) (fNil)))) (fNil))) (fNil)))) (fCons (fLst (fCons (fC (.int 0)) (fCons (fTup (fNil)) (fNil)))) (fCons (fC (.str "places 0")) (fNil))))))))))
    (fRet (fBlt bAll (fCons (fLc (iSeq (fVar 7)) (gNm 8) [8] (fYes) (fCall m__law_e_shown [false] (fCons (fVar 8) (fNil)))) (fNil))))))))))))
def m_law : FSem := semOf 1 9 b_law
section
variable {P : Program} {w : World} {K : PySem.W.Frag} {mg : Str → Option Value} {base : Heap}
theorem sc__law_e_each_change : FnScope ["text", "found", "at", "sign"] ["text"] (defScope s__law_e_each_change) := ⟨rfl, rfl, rfl, by decide +kernel, rfl, by decide +kernel, by decide +kernel⟩
theorem ok__law_e_each_change (T : TxOkQ fa fn exl K mg base) : Df P w K mg base "_law_e_each_change" 1 ["text"] [false] m__law_e_each_change := by
  refine dfOk (bd := b__law_e_each_change) T.toTxOk 0 0 sc__law_e_each_change (by decide) (fun _ _ _ _ _ _ us hl => match us, hl with | [_], _ => rfl) ?_
  intro f cdv A outer s H vs E hr
  have sc := sc__law_e_each_change
  exact pfs_cons (pfs_set (i := 1) sc.nd (pf_lst (pf_nil)))
    (pfs_cons (pfs_for (ws := [2]) (wp := [2, 3]) (passes_of rfl) rfl (pfi_range1 rfl (T.free 44) (pf_cons (pf_op fop_add (pf_blt fb_len (T.free 43) bb_len (pf_cons (pf_var 0) (pf_nil))) (pf_int)) (pf_nil))) (pfg_nm sc.nd) (pfs_cons (pfs_expr (pf_lm 1 PySem.F.slot_list_append PySem.F.type_list_append fm_append (pf_cons (pf_op fop_add (pf_slS (pf_var 0) (pfo_none) (pfo_some (pf_var 2))) (pf_slS (pf_var 0) (pfo_some (pf_op fop_add (pf_var 2) (pf_int))) (pfo_none))) (pf_nil)) (pv 1)))
    (pfs_one (pfs_for (ws := [3]) (wp := [3]) (passes_of rfl) rfl (pfi_str (pf_str)) (pfg_nm sc.nd) (pfs_one (pfs_set (i := 1) sc.nd (pf_op fop_add (pf_var 1) (pf_lst (pf_cons (pf_op fop_add (pf_op fop_add (pf_slS (pf_var 0) (pfo_none) (pfo_some (pf_var 2))) (pf_var 3)) (pf_slS (pf_var 0) (pfo_some (pf_op fop_add (pf_var 2) (pf_int))) (pfo_none))) (pf_cons (pf_op fop_add (pf_op fop_add (pf_slS (pf_var 0) (pfo_none) (pfo_some (pf_var 2))) (pf_var 3)) (pf_slS (pf_var 0) (pfo_some (pf_var 2)) (pfo_none))) (pf_nil)))))))))))
    (pfs_one (pfs_ret (pf_var 1))))
theorem sc__law_e_text : FnScope ["web", "found", "i", "j"] ["web"] (defScope s__law_e_text) := ⟨rfl, rfl, rfl, by decide +kernel, rfl, by decide +kernel, by decide +kernel⟩
theorem ok__law_e_text (T : TxOkQ fa fn exl K mg base) : Df P w K mg base "_law_e_text" 1 ["web"] [false] m__law_e_text := by
  refine dfOk (bd := b__law_e_text) T.toTxOk 1 1 sc__law_e_text (by decide) (fun _ _ _ _ _ _ us hl => match us, hl with | [_], _ => rfl) ?_
  intro f cdv A outer s H vs E hr
  have sc := sc__law_e_text
  exact pfs_cons (pfs_set (i := 1) sc.nd (pf_op fop_add (pf_str) (pf_bty fb_str (T.free 45) bb_str (pf_cons (pf_ix fix_d (pf_var 0) (pf_int)) (pf_nil)))))
    (pfs_cons (pfs_for (ws := [2, 3]) (wp := [2, 3]) (passes_of rfl) rfl (pfi_seq (pf_ix fix_d (pf_var 0) (pf_int))) (pfg_tup rfl (pfgs_cons (pfg_nm sc.nd) (pfgs_cons (pfg_nm sc.nd) (pfgs_nil))) rfl rfl tp2) (pfs_one (pfs_set (i := 1) sc.nd (pf_op fop_add (pf_op fop_add (pf_op fop_add (pf_op fop_add (pf_var 1) (pf_str)) (pf_bty fb_str (T.free 45) bb_str (pf_cons (pf_var 2) (pf_nil)))) (pf_str)) (pf_bty fb_str (T.free 45) bb_str (pf_cons (pf_var 3) (pf_nil)))))))
    (pfs_one (pfs_ret (pf_var 1))))
theorem sc__law_e_stir : FnScope ["cell", "at", "one", "two", "three"] ["cell", "at"] (defScope s__law_e_stir) := ⟨rfl, rfl, rfl, by decide +kernel, rfl, by decide +kernel, by decide +kernel⟩
theorem ok__law_e_stir (T : TxOkQ fa fn exl K mg base) : Df P w K mg base "_law_e_stir" 1 ["cell", "at"] [false, false] m__law_e_stir := by
  refine dfOk (bd := b__law_e_stir) T.toTxOk 2 2 sc__law_e_stir (by decide) (fun _ _ _ _ _ _ us hl => match us, hl with | [_, _], _ => rfl) ?_
  intro f cdv A outer s H vs E hr
  have sc := sc__law_e_stir
  exact pfs_cons (pfs_if (pft_cmp fop_ge (pf_var 0) (pf_powC 1000000000000000000) (nomark _)) (pfs_one (pfs_ret (pf_var 0))) (pfs_nil))
    (pfs_cons (pfs_set (i := 2) sc.nd (pf_op fop_mod (pf_op fop_add (pf_op fop_add (pf_op fop_mul (pf_op fop_mod (pf_var 0) (pf_int)) (pf_int)) (pf_op fop_mul (pf_var 1) (pf_int))) (pf_int)) (pf_int)))
    (pfs_cons (pfs_set (i := 3) sc.nd (pf_op fop_mod (pf_op fop_add (pf_op fop_add (pf_op fop_add (pf_op fop_mul (pf_var 2) (pf_var 2)) (pf_op fop_mul (pf_op fop_mul (pf_int) (pf_var 1)) (pf_var 1))) (pf_op fop_mul (pf_int) (pf_var 2))) (pf_int)) (pf_int)))
    (pfs_cons (pfs_set (i := 4) sc.nd (pf_op fop_mod (pf_op fop_add (pf_op fop_add (pf_op fop_add (pf_op fop_mul (pf_var 3) (pf_var 3)) (pf_op fop_mul (pf_int) (pf_var 3))) (pf_var 2)) (pf_var 1)) (pf_int)))
    (pfs_one (pfs_ret (pf_op fop_add (pf_op fop_mul (pf_var 3) (pf_int)) (pf_var 4)))))))
theorem sc__law_e_dip : FnScope ["cup", "many", "at", "cell", "found"] ["cup", "many"] (defScope s__law_e_dip) := ⟨rfl, rfl, rfl, by decide +kernel, rfl, by decide +kernel, by decide +kernel⟩
theorem ok__law_e_dip (T : TxOkQ fa fn exl K mg base) : Df P w K mg base "_law_e_dip" 2 ["cup", "many"] [true, false] m__law_e_dip := by
  refine dfOk (bd := b__law_e_dip) T.toTxOk 3 3 sc__law_e_dip (by decide) (fun _ _ _ _ _ _ us hl => match us, hl with | [_, _], _ => rfl) ?_
  intro f cdv A outer s H vs E hr
  have sc := sc__law_e_dip
  exact pfs_cons (pfs_if (pft_cmp (fop_lt hr.units0) (pf_ix fix_d (pf_var 0) (pf_int)) (pf_var 1) (nomark _)) (pfs_cons (pfs_set (i := 2) sc.nd (pf_ix fix_d (pf_var 0) (pf_int)))
    (pfs_cons (pfs_set (i := 3) sc.nd (pf_op fop_add (pf_op fop_mul (pf_int) (pf_var 2)) (pf_int)))
    (pfs_cons (pfs_if (pft_cmp (fop_lt hr.units0) (pf_var 2) (pf_blt fb_len (T.free 43) bb_len (pf_cons (pf_ix fix_d (pf_var 0) (pf_int)) (pf_nil))) (nomark _)) (pfs_one (pfs_set (i := 3) sc.nd (pf_ix fix_d (pf_ix fix_d (pf_var 0) (pf_int)) (pf_var 2)))) (pfs_one (pfs_if (pft_cmp fop_gt (pf_blt fb_len (T.free 43) bb_len (pf_cons (pf_ix fix_d (pf_var 0) (pf_int)) (pf_nil))) (pf_int) (nomark _)) (pfs_one (pfs_set (i := 3) sc.nd (pf_op fop_add (pf_op fop_mod (pf_ix fix_d (pf_ix fix_d (pf_var 0) (pf_int)) (pf_op fop_mod (pf_op fop_add (pf_op fop_mul (pf_int) (pf_var 2)) (pf_int)) (pf_blt fb_len (T.free 43) bb_len (pf_cons (pf_ix fix_d (pf_var 0) (pf_int)) (pf_nil))))) (pf_int)) (pf_op fop_mul (pf_var 2) (pf_int))))) (pfs_nil))))
    (pfs_cons (pfs_setIx 0 (pf_op fop_add (pf_var 2) (pf_int)) (pv 0) (pf_int))
    (pfs_one (pfs_setIx 0 (pf_callD (ok__law_e_stir T) (hr.mono (by decide)) (fun σ => passAt (takes_of rfl rfl rfl rfl) σ) (pf_cons (pf_var 3) (pf_cons (pf_var 2) (pf_nil)))) (pv 0) (pf_int))))))) (pfs_nil))
    (pfs_cons (pfs_set (i := 4) sc.nd (pf_op fop_mod (pf_ix fix_d (pf_var 0) (pf_int)) (pf_var 1)))
    (pfs_cons (pfs_setIx 0 (pf_op fop_fdiv (pf_ix fix_d (pf_var 0) (pf_int)) (pf_var 1)) (pv 0) (pf_int))
    (pfs_one (pfs_ret (pf_var 4)))))
theorem sc__law_e_web_of : FnScope ["cup", "n", "often", "ties", "i", "j"] ["cup", "n"] (defScope s__law_e_web_of) := ⟨rfl, rfl, rfl, by decide +kernel, rfl, by decide +kernel, by decide +kernel⟩
theorem ok__law_e_web_of (T : TxOkQ fa fn exl K mg base) : Df P w K mg base "_law_e_web_of" 3 ["cup", "n"] [true, false] m__law_e_web_of := by
  refine dfOk (bd := b__law_e_web_of) T.toTxOk 4 4 sc__law_e_web_of (by decide) (fun _ _ _ _ _ _ us hl => match us, hl with | [_, _], _ => rfl) ?_
  intro f cdv A outer s H vs E hr
  have sc := sc__law_e_web_of
  exact pfs_cons (pfs_set (i := 2) sc.nd (pf_callD (ok__law_e_dip T) (hr.mono (by decide)) (fun σ => passAt (takes_of rfl rfl rfl rfl) σ) (pf_cons (pf_var 0) (pf_cons (pf_int) (pf_nil)))))
    (pfs_cons (pfs_set (i := 3) sc.nd (pf_lst (pf_nil)))
    (pfs_cons (pfs_for (ws := [4]) (wp := [4, 5]) (passes_of rfl) rfl (pfi_range1 rfl (T.free 44) (pf_cons (pf_var 1) (pf_nil))) (pfg_nm sc.nd) (pfs_one (pfs_for (ws := [5]) (wp := [5]) (passes_of rfl) rfl (pfi_range2 rfl (T.free 44) (pf_cons (pf_op fop_add (pf_var 4) (pf_int)) (pf_cons (pf_var 1) (pf_nil)))) (pfg_nm sc.nd) (pfs_one (pfs_if (pft_cmp (fop_lt hr.units0) (pf_callD (ok__law_e_dip T) (hr.mono (by decide)) (fun σ => passAt (takes_of rfl rfl rfl rfl) σ) (pf_cons (pf_var 0) (pf_cons (pf_int) (pf_nil)))) (pf_var 2) (nomark _)) (pfs_one (pfs_expr (pf_lm 3 PySem.F.slot_list_append PySem.F.type_list_append fm_append (pf_cons (pf_tup (pf_cons (pf_var 4) (pf_cons (pf_var 5) (pf_nil)))) (pf_nil)) (pv 3)))) (pfs_nil))))))
    (pfs_one (pfs_ret (pf_tup (pf_cons (pf_var 1) (pf_cons (pf_bty fb_tuple (T.free 46) bb_tuple (pf_cons (pf_var 3) (pf_nil))) (pf_nil))))))))
theorem sc__law_e_web : FnScope ["cup", "most", "n"] ["cup", "most"] (defScope s__law_e_web) := ⟨rfl, rfl, rfl, by decide +kernel, rfl, by decide +kernel, by decide +kernel⟩
theorem ok__law_e_web (T : TxOkQ fa fn exl K mg base) : Df P w K mg base "_law_e_web" 4 ["cup", "most"] [true, false] m__law_e_web := by
  refine dfOk (bd := b__law_e_web) T.toTxOk 5 5 sc__law_e_web (by decide) (fun _ _ _ _ _ _ us hl => match us, hl with | [_, _], _ => rfl) ?_
  intro f cdv A outer s H vs E hr
  have sc := sc__law_e_web
  exact pfs_cons (pfs_set (i := 2) sc.nd (pf_callD (ok__law_e_dip T) (hr.mono (by decide)) (fun σ => passAt (takes_of rfl rfl rfl rfl) σ) (pf_cons (pf_var 0) (pf_cons (pf_op fop_add (pf_var 1) (pf_int)) (pf_nil)))))
    (pfs_one (pfs_ret (pf_callD (ok__law_e_web_of T) (hr.mono (by decide)) (fun σ => passAt (takes_of rfl rfl rfl rfl) σ) (pf_cons (pf_var 0) (pf_cons (pf_var 2) (pf_nil))))))
theorem sc__law_e_bent : FnScope ["cup", "text", "signs", "at", "sign", "some"] ["cup", "text"] (defScope s__law_e_bent) := ⟨rfl, rfl, rfl, by decide +kernel, rfl, by decide +kernel, by decide +kernel⟩
theorem ok__law_e_bent (T : TxOkQ fa fn exl K mg base) : Df P w K mg base "_law_e_bent" 3 ["cup", "text"] [true, false] m__law_e_bent := by
  refine dfOk (bd := b__law_e_bent) T.toTxOk 6 6 sc__law_e_bent (by decide) (fun _ _ _ _ _ _ us hl => match us, hl with | [_, _], _ => rfl) ?_
  intro f cdv A outer s H vs E hr
  have sc := sc__law_e_bent
  exact pfs_strT (i := 2) sc.nd (pfsst_cons (pfst_of (pfs_set (i := 3) sc.nd (pf_callD (ok__law_e_dip T) (hr.mono (by decide)) (fun σ => passAt (takes_of rfl rfl rfl rfl) σ) (pf_cons (pf_var 0) (pf_cons (pf_op fop_add (pf_blt fb_len (T.free 43) bb_len (pf_cons (pf_var 1) (pf_nil))) (pf_int)) (pf_nil))))))
    (pfsst_cons (pfst_of (pfs_set (i := 4) sc.nd (pf_ix fix_d (pf_var 2) (pf_callD (ok__law_e_dip T) (hr.mono (by decide)) (fun σ => passAt (takes_of rfl rfl rfl rfl) σ) (pf_cons (pf_var 0) (pf_cons (pf_blt fb_len (T.free 43) bb_len (pf_cons (pf_var 2) (pf_nil))) (pf_nil)))))))
    (pfsst_cons (pfst_of (pfs_set (i := 5) sc.nd (pf_lst (pf_cons (pf_op fop_add (pf_op fop_add (pf_slS (pf_var 1) (pfo_none) (pfo_some (pf_var 3))) (pf_var 4)) (pf_slS (pf_var 1) (pfo_some (pf_op fop_add (pf_var 3) (pf_int))) (pfo_none))) (pf_cons (pf_op fop_add (pf_op fop_add (pf_slS (pf_var 1) (pfo_none) (pfo_some (pf_var 3))) (pf_var 4)) (pf_slS (pf_var 1) (pfo_some (pf_var 3)) (pfo_none))) (pf_cons (pf_op fop_add (pf_var 1) (pf_str)) (pf_cons (pf_op fop_add (pf_var 1) (pf_str)) (pf_nil))))))))
    (pfsst_cons (pfst_of (pfs_set (i := 5) sc.nd (pf_op fop_add (pf_var 5) (pf_lst (pf_cons (pf_op fop_add (pf_str) (pf_var 1)) (pf_cons (pf_op fop_add (pf_op fop_add (pf_var 1) (pf_str)) (pf_var 1)) (pf_cons (pf_op fop_add (pf_var 1) (pf_str)) (pf_cons (pf_op fop_add (pf_var 1) (pf_str)) (pf_cons (pf_op fop_add (pf_var 1) (pf_str)) (pf_nil))))))))))
    (pfsst_cons (pfst_set (i := 5) sc.nd (pft_op fop_add (pft_of (pf_var 5)) (pft_lst (pfat_cons (pft_of (pf_op fop_add (pf_var 1) (pf_str))) (pfat_cons (pft_of (pf_op fop_add (pf_var 1) (pf_str))) (pfat_cons (pft_of (pf_op fop_add (pf_var 1) (pf_str))) (pfat_cons (pft_repC (pf_var 1)) (pfat_nil))))))))
    (pfsst_cons (pfst_of (pfs_set (i := 5) sc.nd (pf_op fop_add (pf_var 5) (pf_lst (pf_cons (pf_upT (pf_var 1)) (pf_cons (pf_slS (pf_var 1) (pfo_none) (pfo_some (pf_var 3))) (pf_cons (pf_op fop_add (pf_var 1) (pf_str)) (pf_nil))))))))
    (pfsst_of (pfs_one (pfs_ret (pf_ix fix_d (pf_var 5) (pf_callD (ok__law_e_dip T) (hr.mono (by decide)) (fun σ => passAt (takes_of rfl rfl rfl rfl) σ) (pf_cons (pf_var 0) (pf_cons (pf_blt fb_len (T.free 43) bb_len (pf_cons (pf_var 5) (pf_nil))) (pf_nil))))))))))))))
theorem sc__law_e_kind : FnScope ["caught", "names", "kinds"] ["caught"] (defScope s__law_e_kind) := ⟨rfl, rfl, rfl, by decide +kernel, rfl, by decide +kernel, by decide +kernel⟩
theorem ok__law_e_kind (T : TxOkQ fa fn exl K mg base) : Df P w K mg base "_law_e_kind" 1 ["caught"] [false] m__law_e_kind := by
  refine dfOk (bd := b__law_e_kind) T.toTxOk 7 7 sc__law_e_kind (by decide) (fun _ _ _ _ _ _ us hl => match us, hl with | [_], _ => rfl) ?_
  intro f cdv A outer s H vs E hr
  have sc := sc__law_e_kind
  exact pfs_cons (pfs_set (i := 1) sc.nd (pf_lst (pf_cons (pf_str) (pf_cons (pf_str) (pf_cons (pf_str) (pf_cons (pf_str) (pf_cons (pf_str) (pf_cons (pf_str) (pf_cons (pf_str) (pf_cons (pf_str) (pf_cons (pf_str) (pf_nil))))))))))))
    (pfs_cons (pfs_set (i := 2) sc.nd (pf_lst (pf_cons (pf_isX (tb := [("NoText", false), ("NoWeb", false)]) (pf_var 0) (T.free 47) (T.glo 32) (T.isOwn 2)) (pf_cons (pf_isX (tb := [("NoText", false), ("NoWeb", false)]) (pf_var 0) (T.free 47) (T.glo 31) (T.isOwn 1)) (pf_cons (pf_isX (tb := [("NoText", false), ("NoWeb", false)]) (pf_var 0) (T.free 47) (T.glo 30) (T.isOwn 0)) (pf_nil))))))
    (pfs_cons (pfs_set (i := 2) sc.nd (pf_op fop_add (pf_var 2) (pf_lst (pf_cons (pf_isX (tb := [("NoText", false), ("NoWeb", false)]) (pf_var 0) (T.free 47) (T.glo 34) (T.isOwn 5)) (pf_cons (pf_isX (tb := [("NoText", true), ("NoWeb", false)]) (pf_var 0) (T.free 47) (T.glo 26) (T.isOwn 4)) (pf_cons (pf_isX (tb := [("NoText", false), ("NoWeb", false)]) (pf_var 0) (T.free 47) (T.glo 33) (T.isOwn 3)) (pf_nil)))))))
    (pfs_cons (pfs_set (i := 2) sc.nd (pf_op fop_add (pf_var 2) (pf_lst (pf_cons (pf_isX (tb := [("NoText", false), ("NoWeb", false)]) (pf_var 0) (T.free 47) (T.glo 36) (T.isOwn 8)) (pf_cons (pf_isX (tb := [("NoText", false), ("NoWeb", true)]) (pf_var 0) (T.free 47) (T.glo 28) (T.isOwn 7)) (pf_cons (pf_isX (tb := [("NoText", false), ("NoWeb", false)]) (pf_var 0) (T.free 47) (T.glo 35) (T.isOwn 6)) (pf_nil)))))))
    (pfs_cons (pfs_if (pft_W (pfw_or (pft_cmp (fop_ne hr.u64) (pf_lm 2 PySem.F.slot_list_count PySem.F.type_list_count fm_countB (pf_cons (pf_bl) (pf_nil)) (pv 2)) (pf_int) (nomark _)) (pfw_or1 (pft_not (pft_B (pf_isXT (T := "ValueError") (tb := [("NoText", true), ("NoWeb", true)]) (pf_var 0) (T.free 47) (T.free 48) (by decide +kernel) (T.isTy 9))))))) (pfs_one (pfs_ret (pf_str))) (pfs_nil))
    (pfs_one (pfs_ret (pf_ix fix_d (pf_var 1) (pf_lm 2 PySem.F.slot_list_index PySem.F.type_list_index fm_indexB (pf_cons (pf_bl) (pf_nil)) (pv 2)))))))))
theorem sc_is_figures : FnScope ["word", "sign"] ["word"] (defScope s_is_figures) := ⟨rfl, rfl, rfl, by decide +kernel, rfl, by decide +kernel, by decide +kernel⟩
theorem ok_is_figures (T : TxOkQ fa fn exl K mg base) : Df P w K mg base "is_figures" 1 ["word"] [false] m_is_figures := by
  refine dfOk (bd := b_is_figures) T.toTxOk 8 8 sc_is_figures (by decide) (fun _ _ _ _ _ _ us hl => match us, hl with | [_], _ => rfl) ?_
  intro f cdv A outer s H vs E hr
  have sc := sc_is_figures
  exact pfs_cons (pfs_if (pft_W (pfw_or (pft_not (pft_chain fop_le fop_le (pf_int) (pf_blt fb_len (T.free 43) bb_len (pf_cons (pf_var 0) (pf_nil))) (pf_globI (T.int 40)))) (pfw_or1 (pft_not (pft_B (pf_blt (fb_all rfl) (T.free 49) bb_all (pf_cons (pf_lc (own := [("sign", 1)]) rfl sc.nd (pfi_str (pf_var 0)) (blkOk_by (by rfl)) (fun s H C cl fp => pfg_nm sc.nd) (fun s H C cl fp => pfts_nil) (fun s H C cl fp => pf_cmp (fop_inS hr.u65) (pf_var 1) (pf_globS (T.str 41)) (by rfl))) (pf_nil)))))))) (pfs_one (pfs_ret (pf_bl))) (pfs_nil))
    (pfs_one (pfs_ret (pf_or (pf_cmp (fop_eq hr.u64) (pf_var 0) (pf_str) (nomark _)) (pf_one (pf_cmp (fop_ne hr.u64) (pf_ix fix_d (pf_var 0) (pf_int)) (pf_str) (nomark _))))))
theorem sc_read_number : FnScope ["word"] ["word"] (defScope s_read_number) := ⟨rfl, rfl, rfl, by decide +kernel, rfl, by decide +kernel, by decide +kernel⟩
theorem ok_read_number (T : TxOkQ fa fn exl K mg base) : Df P w K mg base "read_number" 2 ["word"] [false] m_read_number := by
  refine dfOk (bd := b_read_number) T.toTxOk 9 9 sc_read_number (by decide) (fun _ _ _ _ _ _ us hl => match us, hl with | [_], _ => rfl) ?_
  intro f cdv A outer s H vs E hr
  have sc := sc_read_number
  exact pfs_cons (pfs_if (pft_not (pft_B (pf_callD (ok_is_figures T) (hr.mono (by decide)) (fun σ => passAt (takes_of rfl rfl rfl rfl) σ) (pf_cons (pf_var 0) (pf_nil))))) (pfs_one (pfs_raise rfl (takes_of rfl rfl rfl rfl) (T.glo 26) (T.exc 27))) (pfs_nil))
    (pfs_one (pfs_ret (pf_bty fb_intS (T.free 50) bb_int (pf_cons (pf_var 0) (pf_nil)))))
theorem sc_is_whole : FnScope ["thing"] ["thing"] (defScope s_is_whole) := ⟨rfl, rfl, rfl, by decide +kernel, rfl, by decide +kernel, by decide +kernel⟩
theorem ok_is_whole (T : TxOkQ fa fn exl K mg base) : Df P w K mg base "is_whole" 1 ["thing"] [false] m_is_whole := by
  refine dfOk (bd := b_is_whole) T.toTxOk 10 10 sc_is_whole (by decide) (fun _ _ _ _ _ _ us hl => match us, hl with | [_], _ => rfl) ?_
  intro f cdv A outer s H vs E hr
  have sc := sc_is_whole
  exact pfs_one (pfs_ret (pf_and (pf_isinst .int (pf_var 0) (T.free 47) (T.free 50) bb_int) (pf_one (pf_not (pf_isinst .bool (pf_var 0) (T.free 47) (T.free 51) bb_bool)))))
theorem sc_is_below : FnScope ["thing", "many"] ["thing", "many"] (defScope s_is_below) := ⟨rfl, rfl, rfl, by decide +kernel, rfl, by decide +kernel, by decide +kernel⟩
theorem ok_is_below (T : TxOkQ fa fn exl K mg base) : Df P w K mg base "is_below" 2 ["thing", "many"] [false, false] m_is_below := by
  refine dfOk (bd := b_is_below) T.toTxOk 11 11 sc_is_below (by decide) (fun _ _ _ _ _ _ us hl => match us, hl with | [_, _], _ => rfl) ?_
  intro f cdv A outer s H vs E hr
  have sc := sc_is_below
  exact pfs_one (pfs_ret (pf_and (pf_callD (ok_is_whole T) (hr.mono (by decide)) (fun σ => passAt (takes_of rfl rfl rfl rfl) σ) (pf_cons (pf_var 0) (pf_nil))) (pf_one (pf_chain fop_le (fop_lt hr.units0) (pf_int) (pf_var 0) (pf_var 1)))))
theorem sc_is_rising : FnScope ["row", "k"] ["row"] (defScope s_is_rising) := ⟨rfl, rfl, rfl, by decide +kernel, rfl, by decide +kernel, by decide +kernel⟩
theorem ok_is_rising (T : TxOkQ fa fn exl K mg base) : Df P w K mg base "is_rising" 1 ["row"] [false] m_is_rising := by
  refine dfOk (bd := b_is_rising) T.toTxOk 12 12 sc_is_rising (by decide) (fun _ _ _ _ _ _ us hl => match us, hl with | [_], _ => rfl) ?_
  intro f cdv A outer s H vs E hr
  have sc := sc_is_rising
  exact pfs_one (pfs_ret (pf_blt (fb_all rfl) (T.free 49) bb_all (pf_cons (pf_lc (own := [("k", 1)]) rfl sc.nd (pfi_range1 rfl (T.free 44) (pf_cons (pf_op fop_sub (pf_blt fb_len (T.free 43) bb_len (pf_cons (pf_var 0) (pf_nil))) (pf_int)) (pf_nil))) (blkOk_by (by rfl)) (fun s H C cl fp => pfg_nm sc.nd) (fun s H C cl fp => pfts_nil) (fun s H C cl fp => pf_cmp (fop_lt hr.units0) (pf_ix fix_d (pf_var 0) (pf_var 1)) (pf_ix fix_d (pf_var 0) (pf_op fop_add (pf_var 1) (pf_int))) (nomark _))) (pf_nil))))
theorem sc_is_tie : FnScope ["n", "thing"] ["n", "thing"] (defScope s_is_tie) := ⟨rfl, rfl, rfl, by decide +kernel, rfl, by decide +kernel, by decide +kernel⟩
theorem ok_is_tie (T : TxOkQ fa fn exl K mg base) : Df P w K mg base "is_tie" 3 ["n", "thing"] [false, false] m_is_tie := by
  refine dfOk (bd := b_is_tie) T.toTxOk 13 13 sc_is_tie (by decide) (fun _ _ _ _ _ _ us hl => match us, hl with | [_, _], _ => rfl) ?_
  intro f cdv A outer s H vs E hr
  have sc := sc_is_tie
  exact pfs_cons (pfs_if (pft_W (pfw_or (pft_not (pft_B (pf_isinst .tuple (pf_var 1) (T.free 47) (T.free 46) bb_tuple))) (pfw_or1 (pft_cmp (fop_ne hr.u64) (pf_blt fb_len (T.free 43) bb_len (pf_cons (pf_var 1) (pf_nil))) (pf_int) (nomark _))))) (pfs_one (pfs_ret (pf_bl))) (pfs_nil))
    (pfs_one (pfs_ret (pf_and (pf_callD (ok_is_below T) (hr.mono (by decide)) (fun σ => passAt (takes_of rfl rfl rfl rfl) σ) (pf_cons (pf_ix fix_d (pf_var 1) (pf_int)) (pf_cons (pf_var 0) (pf_nil)))) (pf_and (pf_callD (ok_is_below T) (hr.mono (by decide)) (fun σ => passAt (takes_of rfl rfl rfl rfl) σ) (pf_cons (pf_ix fix_d (pf_var 1) (pf_int)) (pf_cons (pf_var 0) (pf_nil)))) (pf_one (pf_cmp (fop_lt hr.units0) (pf_ix fix_d (pf_var 1) (pf_int)) (pf_ix fix_d (pf_var 1) (pf_int)) (nomark _)))))))
theorem sc_are_ties : FnScope ["n", "thing", "tie"] ["n", "thing"] (defScope s_are_ties) := ⟨rfl, rfl, rfl, by decide +kernel, rfl, by decide +kernel, by decide +kernel⟩
theorem ok_are_ties (T : TxOkQ fa fn exl K mg base) : Df P w K mg base "are_ties" 4 ["n", "thing"] [false, false] m_are_ties := by
  refine dfOk (bd := b_are_ties) T.toTxOk 14 14 sc_are_ties (by decide) (fun _ _ _ _ _ _ us hl => match us, hl with | [_, _], _ => rfl) ?_
  intro f cdv A outer s H vs E hr
  have sc := sc_are_ties
  exact pfs_cons (pfs_if (pft_W (pfw_or (pft_not (pft_B (pf_isinst .tuple (pf_var 1) (T.free 47) (T.free 46) bb_tuple))) (pfw_or1 (pft_not (pft_B (pf_blt (fb_all rfl) (T.free 49) bb_all (pf_cons (pf_lc (own := [("tie", 2)]) rfl sc.nd (pfi_seq (pf_var 1)) (blkOk_by (by rfl)) (fun s H C cl fp => pfg_nm sc.nd) (fun s H C cl fp => pfts_nil) (fun s H C cl fp => pf_callD (ok_is_tie T) (hr.mono (by decide)) pass0At (pf_cons (pf_var 0) (pf_cons (pf_var 2) (pf_nil))))) (pf_nil)))))))) (pfs_one (pfs_ret (pf_bl))) (pfs_nil))
    (pfs_one (pfs_ret (pf_callD (ok_is_rising T) (hr.mono (by decide)) (fun σ => passAt (takes_of rfl rfl rfl rfl) σ) (pf_cons (pf_var 1) (pf_nil)))))
theorem sc_is_web : FnScope ["thing"] ["thing"] (defScope s_is_web) := ⟨rfl, rfl, rfl, by decide +kernel, rfl, by decide +kernel, by decide +kernel⟩
theorem ok_is_web (T : TxOkQ fa fn exl K mg base) : Df P w K mg base "is_web" 5 ["thing"] [false] m_is_web := by
  refine dfOk (bd := b_is_web) T.toTxOk 15 15 sc_is_web (by decide) (fun _ _ _ _ _ _ us hl => match us, hl with | [_], _ => rfl) ?_
  intro f cdv A outer s H vs E hr
  have sc := sc_is_web
  exact pfs_cons (pfs_if (pft_W (pfw_or (pft_not (pft_B (pf_isinst .tuple (pf_var 0) (T.free 47) (T.free 46) bb_tuple))) (pfw_or1 (pft_cmp (fop_ne hr.u64) (pf_blt fb_len (T.free 43) bb_len (pf_cons (pf_var 0) (pf_nil))) (pf_int) (nomark _))))) (pfs_one (pfs_ret (pf_bl))) (pfs_nil))
    (pfs_one (pfs_ret (pf_and (pf_callD (ok_is_below T) (hr.mono (by decide)) (fun σ => passAt (takes_of rfl rfl rfl rfl) σ) (pf_cons (pf_ix fix_d (pf_var 0) (pf_int)) (pf_cons (pf_op fop_add (pf_globI (T.int 42)) (pf_int)) (pf_nil)))) (pf_one (pf_callD (ok_are_ties T) (hr.mono (by decide)) (fun σ => passAt (takes_of rfl rfl rfl rfl) σ) (pf_cons (pf_ix fix_d (pf_var 0) (pf_int)) (pf_cons (pf_ix fix_d (pf_var 0) (pf_int)) (pf_nil))))))))
theorem sc_read_tie : FnScope ["text", "words"] ["text"] (defScope s_read_tie) := ⟨rfl, rfl, rfl, by decide +kernel, rfl, by decide +kernel, by decide +kernel⟩
theorem ok_read_tie (T : TxOkQ fa fn exl K mg base) : Df P w K mg base "read_tie" 3 ["text"] [false] m_read_tie := by
  refine dfOk (bd := b_read_tie) T.toTxOk 16 16 sc_read_tie (by decide) (fun _ _ _ _ _ _ us hl => match us, hl with | [_], _ => rfl) ?_
  intro f cdv A outer s H vs E hr
  have sc := sc_read_tie
  exact pfs_cons (pfs_set (i := 1) sc.nd (pf_txt PySem.F.slot_str_split PySem.F.type_str_split fr_split (pf_var 0) (pf_str)))
    (pfs_cons (pfs_if (pft_cmp (fop_ne hr.u64) (pf_blt fb_len (T.free 43) bb_len (pf_cons (pf_var 1) (pf_nil))) (pf_int) (nomark _)) (pfs_one (pfs_raise rfl (takes_of rfl rfl rfl rfl) (T.glo 26) (T.exc 27))) (pfs_nil))
    (pfs_one (pfs_ret (pf_tup (pf_cons (pf_callD (ok_read_number T) (hr.mono (by decide)) (fun σ => passAt (takes_of rfl rfl rfl rfl) σ) (pf_cons (pf_ix fix_d (pf_var 1) (pf_int)) (pf_nil))) (pf_cons (pf_callD (ok_read_number T) (hr.mono (by decide)) (fun σ => passAt (takes_of rfl rfl rfl rfl) σ) (pf_cons (pf_ix fix_d (pf_var 1) (pf_int)) (pf_nil))) (pf_nil)))))))
theorem sc_read_web : FnScope ["text", "parts", "words", "web", "part"] ["text"] (defScope s_read_web) := ⟨rfl, rfl, rfl, by decide +kernel, rfl, by decide +kernel, by decide +kernel⟩
theorem ok_read_web (T : TxOkQ fa fn exl K mg base) : Df P w K mg base "read_web" 6 ["text"] [false] m_read_web := by
  refine dfOk (bd := b_read_web) T.toTxOk 17 17 sc_read_web (by decide) (fun _ _ _ _ _ _ us hl => match us, hl with | [_], _ => rfl) ?_
  intro f cdv A outer s H vs E hr
  have sc := sc_read_web
  exact pfs_cons (pfs_set (i := 1) sc.nd (pf_txt PySem.F.slot_str_split PySem.F.type_str_split fr_split (pf_var 0) (pf_str)))
    (pfs_cons (pfs_set (i := 2) sc.nd (pf_txt PySem.F.slot_str_split PySem.F.type_str_split fr_split (pf_ix fix_d (pf_var 1) (pf_int)) (pf_str)))
    (pfs_cons (pfs_if (pft_W (pfw_or (pft_cmp (fop_ne hr.u64) (pf_blt fb_len (T.free 43) bb_len (pf_cons (pf_var 2) (pf_nil))) (pf_int) (nomark _)) (pfw_or1 (pft_cmp (fop_ne hr.u64) (pf_ix fix_d (pf_var 2) (pf_int)) (pf_str) (nomark _))))) (pfs_one (pfs_raise rfl (takes_of rfl rfl rfl rfl) (T.glo 26) (T.exc 27))) (pfs_nil))
    (pfs_cons (pfs_set (i := 3) sc.nd (pf_tup (pf_cons (pf_callD (ok_read_number T) (hr.mono (by decide)) (fun σ => passAt (takes_of rfl rfl rfl rfl) σ) (pf_cons (pf_ix fix_d (pf_var 2) (pf_int)) (pf_nil))) (pf_cons (pf_bty fb_tuple (T.free 46) bb_tuple (pf_cons (pf_lcX (own := [("part", 4)]) rfl sc.nd rfl rfl (takes_of rfl rfl rfl rfl) (pfi_seq (pf_sl (pf_var 1) (pfo_some (pf_int)) (pfo_none))) (blkOk_by (by rfl)) (fun s H C cl fp xe => pfg_nm sc.nd) (fun s H C cl fp xe Lb hxe => pf_callD (ok_read_tie T) (hr.mono (by decide)) hxe (pf_cons (pf_var 4) (pf_nil)))) (pf_nil))) (pf_nil)))))
    (pfs_cons (pfs_if (pft_not (pft_B (pf_callD (ok_is_web T) (hr.mono (by decide)) (fun σ => passAt (takes_of rfl rfl rfl rfl) σ) (pf_cons (pf_var 3) (pf_nil))))) (pfs_one (pfs_raise rfl (takes_of rfl rfl rfl rfl) (T.glo 28) (T.exc 29))) (pfs_nil))
    (pfs_one (pfs_ret (pf_var 3)))))))
theorem sc__law_e_told : FnScope ["text", "caught", "found", "e"] ["text"] (defScope s__law_e_told) := ⟨rfl, rfl, rfl, by decide +kernel, rfl, by decide +kernel, by decide +kernel⟩
theorem ok__law_e_told (T : TxOkQ fa fn exl K mg base) : Df P w K mg base "_law_e_told" 7 ["text"] [false] m__law_e_told := by
  refine dfOk (bd := b__law_e_told) T.toTxOk 18 18 sc__law_e_told (by decide) (fun _ _ _ _ _ _ us hl => match us, hl with | [_], _ => rfl) ?_
  intro f cdv A outer s H vs E hr
  have sc := sc__law_e_told
  exact pfs_cons (pfs_set (i := 1) sc.nd (pf_non))
    (pfs_cons (pfs_set (i := 2) sc.nd (pf_non))
    (pfs_cons (pfs_try (ns := ["NoText", "NoWeb"]) (i := 3) rfl rfl sc.nd rfl rfl ⟨rfl, by decide, .inl (T.glo 37)⟩ (mem_cons' ⟨T.glo 26, T.exm 38⟩ (mem_cons' ⟨T.glo 28, T.exm 39⟩ (mem_nil'))) (fun W pn xe tk => pfs_one (pfs_set (i := 2) sc.nd (pf_callD (ok_read_web T) (hr.mono (by decide)) (fun σ => passAt tk σ) (pf_cons (pf_var 0) (pf_nil))))) (fun a pn => pfs_one (pfs_set (i := 1) sc.nd (pf_var 3))))
    (pfs_cons (pfs_if (pft_cmp fop_is (pf_var 1) (pf_non) (nomark _)) (pfs_one (pfs_ret (pf_var 2))) (pfs_nil))
    (pfs_one (pfs_ret (pf_callD (ok__law_e_kind T) (hr.mono (by decide)) (fun σ => passAt (takes_of rfl rfl rfl rfl) σ) (pf_cons (pf_var 1) (pf_nil))))))))
theorem sc__law_e_number : FnScope ["word", "sign"] ["word"] (defScope s__law_e_number) := ⟨rfl, rfl, rfl, by decide +kernel, rfl, by decide +kernel, by decide +kernel⟩
theorem ok__law_e_number (T : TxOkQ fa fn exl K mg base) : Df P w K mg base "_law_e_number" 1 ["word"] [false] m__law_e_number := by
  refine dfOk (bd := b__law_e_number) T.toTxOk 19 19 sc__law_e_number (by decide) (fun _ _ _ _ _ _ us hl => match us, hl with | [_], _ => rfl) ?_
  intro f cdv A outer s H vs E hr
  have sc := sc__law_e_number
  exact pfs_cons (pfs_if (pft_W (pfw_or (pft_cmp (fop_lt hr.units0) (pf_blt fb_len (T.free 43) bb_len (pf_cons (pf_var 0) (pf_nil))) (pf_int) (nomark _)) (pfw_or (pft_cmp fop_gt (pf_blt fb_len (T.free 43) bb_len (pf_cons (pf_var 0) (pf_nil))) (pf_int) (nomark _)) (pfw_or1 (pft_not (pft_B (pf_blt (fb_all rfl) (T.free 49) bb_all (pf_cons (pf_lc (own := [("sign", 1)]) rfl sc.nd (pfi_str (pf_var 0)) (blkOk_by (by rfl)) (fun s H C cl fp => pfg_nm sc.nd) (fun s H C cl fp => pfts_nil) (fun s H C cl fp => pf_cmp (fop_inS hr.u65) (pf_var 1) (pf_str) (by rfl))) (pf_nil))))))))) (pfs_one (pfs_ret (pf_non))) (pfs_nil))
    (pfs_cons (pfs_if (pft_W (pfw_and (pft_cmp (fop_eq hr.u64) (pf_ix fix_d (pf_var 0) (pf_int)) (pf_str) (nomark _)) (pfw_and1 (pft_cmp (fop_ne hr.u64) (pf_var 0) (pf_str) (nomark _))))) (pfs_one (pfs_ret (pf_non))) (pfs_nil))
    (pfs_one (pfs_ret (pf_bty fb_intS (T.free 50) bb_int (pf_cons (pf_var 0) (pf_nil))))))
theorem sc__law_e_due : FnScope ["text", "parts", "n", "ties", "part", "at", "tie"] ["text"] (defScope s__law_e_due) := ⟨rfl, rfl, rfl, by decide +kernel, rfl, by decide +kernel, by decide +kernel⟩
theorem ok__law_e_due (T : TxOkQ fa fn exl K mg base) : Df P w K mg base "_law_e_due" 2 ["text"] [false] m__law_e_due := by
  refine dfOk (bd := b__law_e_due) T.toTxOk 20 20 sc__law_e_due (by decide) (fun _ _ _ _ _ _ us hl => match us, hl with | [_], _ => rfl) ?_
  intro f cdv A outer s H vs E hr
  have sc := sc__law_e_due
  exact pfs_cons (pfs_set (i := 1) sc.nd (pf_txt PySem.F.slot_str_split PySem.F.type_str_split fr_split (pf_var 0) (pf_str)))
    (pfs_cons (pfs_if (pft_cmp (fop_ne hr.u64) (pf_slS (pf_ix fix_d (pf_var 1) (pf_int)) (pfo_none) (pfo_some (pf_int))) (pf_str) (nomark _)) (pfs_one (pfs_ret (pf_str))) (pfs_nil))
    (pfs_cons (pfs_set (i := 2) sc.nd (pf_callD (ok__law_e_number T) (hr.mono (by decide)) (fun σ => passAt (takes_of rfl rfl rfl rfl) σ) (pf_cons (pf_slS (pf_ix fix_d (pf_var 1) (pf_int)) (pfo_some (pf_int)) (pfo_none)) (pf_nil))))
    (pfs_cons (pfs_set (i := 3) sc.nd (pf_lst (pf_nil)))
    (pfs_cons (pfs_for (ws := [4]) (wp := [4, 5]) (passes_of rfl) rfl (pfi_seq (pf_sl (pf_var 1) (pfo_some (pf_int)) (pfo_none))) (pfg_nm sc.nd) (pfs_cons (pfs_set (i := 5) sc.nd (pf_txt PySem.F.slot_str_find PySem.F.type_str_find fr_find (pf_var 4) (pf_str)))
    (pfs_cons (pfs_if (pft_cmp (fop_lt hr.units0) (pf_var 5) (pf_int) (nomark _)) (pfs_one (pfs_ret (pf_str))) (pfs_nil))
    (pfs_one (pfs_expr (pf_lm 3 PySem.F.slot_list_append PySem.F.type_list_append fm_append (pf_cons (pf_tup (pf_cons (pf_callD (ok__law_e_number T) (hr.mono (by decide)) (fun σ => passAt (takes_of rfl rfl rfl rfl) σ) (pf_cons (pf_slS (pf_var 4) (pfo_none) (pfo_some (pf_var 5))) (pf_nil))) (pf_cons (pf_callD (ok__law_e_number T) (hr.mono (by decide)) (fun σ => passAt (takes_of rfl rfl rfl rfl) σ) (pf_cons (pf_slS (pf_var 4) (pfo_some (pf_op fop_add (pf_var 5) (pf_int))) (pfo_none)) (pf_nil))) (pf_nil)))) (pf_nil)) (pv 3)))))))
    (pfs_cons (pfs_if (pft_W (pfw_or (pft_cmp fop_is (pf_var 2) (pf_non) (nomark _)) (pfw_or1 (pft_B (pf_blt (fb_any rfl) (T.free 52) bb_any (pf_cons (pf_lc (own := [("tie", 6)]) rfl sc.nd (pfi_seq (pf_var 3)) (blkOk_by (by rfl)) (fun s H C cl fp => pfg_nm sc.nd) (fun s H C cl fp => pfts_nil) (fun s H C cl fp => pf_cmp (fop_in hr.u65) (pf_non) (pf_var 6) (by rfl))) (pf_nil))))))) (pfs_one (pfs_ret (pf_str))) (pfs_nil))
    (pfs_cons (pfs_if (pft_W (pfw_or (pft_cmp fop_gt (pf_var 2) (pf_int) (nomark _)) (pfw_or1 (pft_B (pf_blt (fb_any rfl) (T.free 52) bb_any (pf_cons (pf_lc (own := [("tie", 6)]) rfl sc.nd (pfi_seq (pf_var 3)) (blkOk_by (by rfl)) (fun s H C cl fp => pfg_nm sc.nd) (fun s H C cl fp => pfts_nil) (fun s H C cl fp => pf_or (pf_cmp (fop_ge2 hr.units0) (pf_ix fix_d (pf_var 6) (pf_int)) (pf_ix fix_d (pf_var 6) (pf_int)) (nomark _)) (pf_one (pf_cmp (fop_ge2 hr.units0) (pf_ix fix_d (pf_var 6) (pf_int)) (pf_var 2) (nomark _))))) (pf_nil))))))) (pfs_one (pfs_ret (pf_str))) (pfs_nil))
    (pfs_cons (pfs_if (pft_B (pf_blt (fb_any rfl) (T.free 52) bb_any (pf_cons (pf_lc (own := [("at", 5)]) rfl sc.nd (pfi_range1 rfl (T.free 44) (pf_cons (pf_op fop_sub (pf_blt fb_len (T.free 43) bb_len (pf_cons (pf_var 3) (pf_nil))) (pf_int)) (pf_nil))) (blkOk_by (by rfl)) (fun s H C cl fp => pfg_nm sc.nd) (fun s H C cl fp => pfts_nil) (fun s H C cl fp => pf_cmp (fop_ge2 hr.units0) (pf_ix fix_d (pf_var 3) (pf_var 5)) (pf_ix fix_d (pf_var 3) (pf_op fop_add (pf_var 5) (pf_int))) (nomark _))) (pf_nil)))) (pfs_one (pfs_ret (pf_str))) (pfs_nil))
    (pfs_one (pfs_ret (pf_tup (pf_cons (pf_var 2) (pf_cons (pf_bty fb_tuple (T.free 46) bb_tuple (pf_cons (pf_var 3) (pf_nil))) (pf_nil)))))))))))))
theorem sc_need_web : FnScope ["web"] ["web"] (defScope s_need_web) := ⟨rfl, rfl, rfl, by decide +kernel, rfl, by decide +kernel, by decide +kernel⟩
theorem ok_need_web (T : TxOkQ fa fn exl K mg base) : Df P w K mg base "need_web" 6 ["web"] [false] m_need_web := by
  refine dfOk (bd := b_need_web) T.toTxOk 21 21 sc_need_web (by decide) (fun _ _ _ _ _ _ us hl => match us, hl with | [_], _ => rfl) ?_
  intro f cdv A outer s H vs E hr
  have sc := sc_need_web
  exact pfs_one (pfs_if (pft_not (pft_B (pf_callD (ok_is_web T) (hr.mono (by decide)) (fun σ => passAt (takes_of rfl rfl rfl rfl) σ) (pf_cons (pf_var 0) (pf_nil))))) (pfs_one (pfs_raise rfl (takes_of rfl rfl rfl rfl) (T.glo 28) (T.exc 29))) (pfs_nil))
theorem sc_show_tie : FnScope ["tie"] ["tie"] (defScope s_show_tie) := ⟨rfl, rfl, rfl, by decide +kernel, rfl, by decide +kernel, by decide +kernel⟩
theorem ok_show_tie (T : TxOkQ fa fn exl K mg base) : Df P w K mg base "show_tie" 1 ["tie"] [false] m_show_tie := by
  refine dfOk (bd := b_show_tie) T.toTxOk 22 22 sc_show_tie (by decide) (fun _ _ _ _ _ _ us hl => match us, hl with | [_], _ => rfl) ?_
  intro f cdv A outer s H vs E hr
  have sc := sc_show_tie
  exact pfs_one (pfs_ret (pf_op fop_add (pf_op fop_add (pf_bty fb_str (T.free 45) bb_str (pf_cons (pf_ix fix_d (pf_var 0) (pf_int)) (pf_nil))) (pf_str)) (pf_bty fb_str (T.free 45) bb_str (pf_cons (pf_ix fix_d (pf_var 0) (pf_int)) (pf_nil)))))
theorem sc_show_web : FnScope ["web", "tie"] ["web"] (defScope s_show_web) := ⟨rfl, rfl, rfl, by decide +kernel, rfl, by decide +kernel, by decide +kernel⟩
theorem ok_show_web (T : TxOkQ fa fn exl K mg base) : Df P w K mg base "show_web" 7 ["web"] [false] m_show_web := by
  refine dfOk (bd := b_show_web) T.toTxOk 23 23 sc_show_web (by decide) (fun _ _ _ _ _ _ us hl => match us, hl with | [_], _ => rfl) ?_
  intro f cdv A outer s H vs E hr
  have sc := sc_show_web
  exact pfs_cons (pfs_expr (pf_callD (ok_need_web T) (hr.mono (by decide)) (fun σ => passAt (takes_of rfl rfl rfl rfl) σ) (pf_cons (pf_var 0) (pf_nil))))
    (pfs_one (pfs_ret (pf_txt PySem.F.slot_str_join PySem.F.type_str_join fr_join (pf_str) (pf_op fop_add (pf_lst (pf_cons (pf_op fop_add (pf_str) (pf_bty fb_str (T.free 45) bb_str (pf_cons (pf_ix fix_d (pf_var 0) (pf_int)) (pf_nil)))) (pf_nil))) (pf_lc (own := [("tie", 1)]) rfl sc.nd (pfi_seq (pf_ix fix_d (pf_var 0) (pf_int))) (blkOk_by (by rfl)) (fun s H C cl fp => pfg_nm sc.nd) (fun s H C cl fp => pfts_nil) (fun s H C cl fp => pf_callD (ok_show_tie T) (hr.mono (by decide)) pass0At (pf_cons (pf_var 1) (pf_nil))))))))
theorem sc__law_e_shown : FnScope ["web", "caught", "e"] ["web"] (defScope s__law_e_shown) := ⟨rfl, rfl, rfl, by decide +kernel, rfl, by decide +kernel, by decide +kernel⟩
theorem ok__law_e_shown (T : TxOkQ fa fn exl K mg base) : Df P w K mg base "_law_e_shown" 8 ["web"] [false] m__law_e_shown := by
  refine dfOk (bd := b__law_e_shown) T.toTxOk 24 24 sc__law_e_shown (by decide) (fun _ _ _ _ _ _ us hl => match us, hl with | [_], _ => rfl) ?_
  intro f cdv A outer s H vs E hr
  have sc := sc__law_e_shown
  exact pfs_cons (pfs_set (i := 1) sc.nd (pf_non))
    (pfs_cons (pfs_try (ns := ["NoText", "NoWeb"]) (i := 2) rfl rfl sc.nd rfl rfl ⟨rfl, by decide, .inl (T.glo 37)⟩ (mem_cons' ⟨T.glo 26, T.exm 38⟩ (mem_cons' ⟨T.glo 28, T.exm 39⟩ (mem_nil'))) (fun W pn xe tk => pfs_one (pfs_expr (pf_callD (ok_show_web T) (hr.mono (by decide)) (fun σ => passAt tk σ) (pf_cons (pf_var 0) (pf_nil))))) (fun a pn => pfs_one (pfs_set (i := 1) sc.nd (pf_var 2))))
    (pfs_one (pfs_ret (pf_and (pf_cmp fop_isNot (pf_var 1) (pf_non) (nomark _)) (pf_one (pf_cmp (fop_eq hr.u64) (pf_callD (ok__law_e_kind T) (hr.mono (by decide)) (fun σ => passAt (takes_of rfl rfl rfl rfl) σ) (pf_cons (pf_var 1) (pf_nil))) (pf_str) (nomark _)))))))
theorem sc_law : FnScope ["script", "cup", "k", "bent", "text", "turn", "rows", "bads", "bad"] ["script"] (defScope s_law) := ⟨rfl, rfl, rfl, by decide +kernel, rfl, by decide +kernel, by decide +kernel⟩
theorem lawFn (T : TxOkQ fa fn exl K mg base) {f : Addr} {fd : FuncData} (F : FunD K "law" "law" (defArgs s_law) (defBody s_law) (defScope s_law) [] [] f fd) : FnOk P w K mg base (L2.CX P w) 9 f fd ["script"] (liftSp K mg (ioOf [false]) 1 m_law) := by
  refine okF (bd := b_law) (funOf F) sc_law (by decide) ?_
  intro cdv A outer s H vs E hr
  have sc := sc_law
  exact pfs_cons (pfs_set (i := 1) sc.nd (pf_lst (pf_cons (pf_var 0) (pf_cons (pf_int) (pf_cons (pf_int) (pf_nil))))))
    (pfs_cons (pfs_for (ws := [2]) (wp := [2, 3, 4, 5]) (passes_of rfl) rfl (pfi_range1 rfl (T.free 44) (pf_cons (pf_int) (pf_nil))) (pfg_nm sc.nd) (pfs_cons (pfs_if (pft_W (pfw_and (pft_cmp fop_gt (pf_var 2) (pf_int) (nomark _)) (pfw_and1 (pft_cmp fop_ge (pf_ix fix_d (pf_var 1) (pf_int)) (pf_blt fb_len (T.free 43) bb_len (pf_cons (pf_var 0) (pf_nil))) (nomark _))))) (pfs_one (pfs_break)) (pfs_nil))
    (pfs_cons (pfs_for (ws := [3]) (wp := [3]) (passes_of rfl) rfl (pfi_seq (pf_callD (ok__law_e_each_change T) (hr.mono (by decide)) (fun σ => passAt (takes_of rfl rfl rfl rfl) σ) (pf_cons (pf_callD (ok__law_e_text T) (hr.mono (by decide)) (fun σ => passAt (takes_of rfl rfl rfl rfl) σ) (pf_cons (pf_callD (ok__law_e_web T) (hr.mono (by decide)) (fun σ => passAt (takes_of rfl rfl rfl rfl) σ) (pf_cons (pf_var 1) (pf_cons (pf_int) (pf_nil)))) (pf_nil))) (pf_nil)))) (pfg_nm sc.nd) (pfs_one (pfs_if (pft_cmp (fop_ne hr.u64) (pf_callD (ok__law_e_told T) (hr.mono (by decide)) (fun σ => passAt (takes_of rfl rfl rfl rfl) σ) (pf_cons (pf_var 3) (pf_nil))) (pf_callD (ok__law_e_due T) (hr.mono (by decide)) (fun σ => passAt (takes_of rfl rfl rfl rfl) σ) (pf_cons (pf_var 3) (pf_nil))) (nomark _)) (pfs_one (pfs_ret (pf_bl))) (pfs_nil))))
    (pfs_cons (pfs_set (i := 4) sc.nd (pf_callD (ok__law_e_text T) (hr.mono (by decide)) (fun σ => passAt (takes_of rfl rfl rfl rfl) σ) (pf_cons (pf_callD (ok__law_e_web T) (hr.mono (by decide)) (fun σ => passAt (takes_of rfl rfl rfl rfl) σ) (pf_cons (pf_var 1) (pf_cons (pf_int) (pf_nil)))) (pf_nil))))
    (pfs_one (pfs_for (ws := [5]) (wp := [3, 5]) (passes_of rfl) rfl (pfi_range1 rfl (T.free 44) (pf_cons (pf_int) (pf_nil))) (pfg_nm sc.nd) (pfs_cons (pfs_set (i := 3) sc.nd (pf_callD (ok__law_e_bent T) (hr.mono (by decide)) (fun σ => passAt (takes_of rfl rfl rfl rfl) σ) (pf_cons (pf_var 1) (pf_cons (pf_var 4) (pf_nil)))))
    (pfs_one (pfs_if (pft_cmp (fop_ne hr.u64) (pf_callD (ok__law_e_told T) (hr.mono (by decide)) (fun σ => passAt (takes_of rfl rfl rfl rfl) σ) (pf_cons (pf_var 3) (pf_nil))) (pf_callD (ok__law_e_due T) (hr.mono (by decide)) (fun σ => passAt (takes_of rfl rfl rfl rfl) σ) (pf_cons (pf_var 3) (pf_nil))) (nomark _)) (pfs_one (pfs_ret (pf_bl))) (pfs_nil))))))))))
    (pfs_cons (pfs_set (i := 6) sc.nd (pf_lst (pf_cons (pf_str) (pf_cons (pf_str) (pf_cons (pf_str) (pf_cons (pf_str) (pf_cons (pf_str) (pf_cons (pf_str) (pf_cons (pf_str) (pf_cons (pf_str) (pf_nil)))))))))))
    (pfs_cons (pfs_set (i := 6) sc.nd (pf_op fop_add (pf_var 6) (pf_lst (pf_cons (pf_str) (pf_cons (pf_str) (pf_cons (pf_str) (pf_cons (pf_str) (pf_cons (pf_str) (pf_nil)))))))))
    (pfs_cons (pfs_set (i := 6) sc.nd (pf_op fop_add (pf_var 6) (pf_lst (pf_cons (pf_str) (pf_cons (pf_str) (pf_cons (pf_str) (pf_cons (pf_str) (pf_cons (pf_str) (pf_nil)))))))))
    (pfs_cons (pfs_set (i := 6) sc.nd (pf_op fop_add (pf_var 6) (pf_lst (pf_cons (pf_str) (pf_cons (pf_str) (pf_cons (pf_str) (pf_cons (pf_str) (pf_cons (pf_str) (pf_nil)))))))))
    (pfs_cons (pfs_set (i := 6) sc.nd (pf_op fop_add (pf_var 6) (pf_lst (pf_cons (pf_str) (pf_cons (pf_str) (pf_nil))))))
    (pfs_cons (pfs_for (ws := [4]) (wp := [4]) (passes_of rfl) rfl (pfi_seq (pf_var 6)) (pfg_nm sc.nd) (pfs_one (pfs_if (pft_cmp (fop_ne hr.u64) (pf_callD (ok__law_e_told T) (hr.mono (by decide)) (fun σ => passAt (takes_of rfl rfl rfl rfl) σ) (pf_cons (pf_var 4) (pf_nil))) (pf_callD (ok__law_e_due T) (hr.mono (by decide)) (fun σ => passAt (takes_of rfl rfl rfl rfl) σ) (pf_cons (pf_var 4) (pf_nil))) (nomark _)) (pfs_one (pfs_ret (pf_bl))) (pfs_nil))))
    (pfs_cons (pfs_set (i := 7) sc.nd (pf_lst (pf_cons (pf_non) (pf_cons (pf_tup (pf_nil)) (pf_cons (pf_tup (pf_cons (pf_int) (pf_cons (pf_tup (pf_nil)) (pf_nil)))) (pf_cons (pf_tup (pf_cons (pf_int) (pf_cons (pf_tup (pf_cons (pf_tup (pf_cons (pf_int) (pf_cons (pf_int) (pf_nil)))) (pf_nil))) (pf_nil)))) (pf_cons (pf_tup (pf_cons (pf_int) (pf_cons (pf_tup (pf_cons (pf_tup (pf_cons (pf_int) (pf_cons (pf_int) (pf_nil)))) (pf_nil))) (pf_nil)))) (pf_cons (pf_lst (pf_cons (pf_int) (pf_cons (pf_tup (pf_nil)) (pf_nil)))) (pf_cons (pf_str) (pf_nil))))))))))
    (pfs_one (pfs_ret (pf_blt (fb_all rfl) (T.free 49) bb_all (pf_cons (pf_lc (own := [("bad", 8)]) rfl sc.nd (pfi_seq (pf_var 7)) (blkOk_by (by rfl)) (fun s H C cl fp => pfg_nm sc.nd) (fun s H C cl fp => pfts_nil) (fun s H C cl fp => pf_callD (ok__law_e_shown T) (hr.mono (by decide)) pass0At (pf_cons (pf_var 8) (pf_nil)))) (pf_nil)))))))))))))
end
end Lk55
namespace Lk55
open PySem PySem.Spec PyProof.Rows L2 Hs
theorem facts {P : Program} {w : World} {K : PySem.W.Frag} {h : Heap} {mg : Str → Option Value} {f : Addr} (X : K.In h) (G : h.Ns mainGlobals mg) (hfa : mg ("law" : Str) = some (.ref f)) (c : He.SaysD fa fn K) (ce : (exl.all fun e => e.ok K) = true) :
    ∃ fd : FuncData, (∀ (s : Shared) (u : Value), BindsTo s fd ⟨[u], []⟩ [("script", u)]) ∧ ∀ base : Heap, K.In base → base.Ns mainGlobals mg → FnOk P w K mg base (L2.CX P w) 9 f fd ["script"] (liftSp K mg (ioOf [false]) 1 m_law) := by
  obtain ⟨fd, F⟩ := c.def_ 25 (d := dOf "law" s_law) rfl
  have T0 : TxOkQ fa fn exl K mg h := ⟨⟨c, X, G⟩, ce⟩
  have e := hfa.symm.trans (T0.glo 25)
  cases e
  have b := FunD.bindsA (ps := ["script"]) F fun _ _ _ _ _ _ us hl => match us, hl with | [_], _ => rfl
  refine ⟨fd, fun s u => b s [u] rfl, fun base hX hG => ?_⟩
  exact lawFn ⟨⟨c, hX, hG⟩, ce⟩ F
end Lk55
namespace Lk55
open PySem Hs
local macro_rules
  | `(tactic| sizeOf_list_dec) => `(tactic| first
    | with_reducible refine st_seq ?_ | with_reducible refine st_asg ?_ | with_reducible refine st_cons ?_ | with_reducible refine st_nil ?_ | with_reducible refine st_C ?_ | with_reducible refine st_op ?_
    | with_reducible refine st_var_d ?_ | with_reducible refine st_var_l ?_ | with_reducible refine st_var_ll ?_ | with_reducible refine st_var_dc ?_
    | with_reducible refine st_look_d ?_ | with_reducible refine st_look_top ?_ | with_reducible refine st_look_top_d ?_ | with_reducible refine st_look_own ?_ | with_reducible refine st_look_top_dc ?_ | with_reducible refine st_look_own_dc ?_ | with_reducible refine st_put_d ?_ | with_reducible refine st_put_own ?_ | with_reducible refine st_put_top_l ?_ | with_reducible refine st_put_top_ll ?_ | with_reducible refine st_put_top_dc ?_
    | ((with_reducible refine st_callF ?_ ?_); eq_refl) | with_reducible refine st_call ?_ | with_reducible refine st_putK_nil ?_ | with_reducible refine st_putK_t ?_ | with_reducible refine st_putK_f ?_ | with_reducible refine st_putK_td ?_ | with_reducible refine st_putK_to ?_ | with_reducible refine st_bind_nil ?_ | with_reducible refine st_bind_f ?_ | with_reducible refine st_bind_tt ?_ | with_reducible refine st_bind_td ?_ | with_reducible refine st_bind_to ?_
    | with_reducible refine st_frz_d ?_ | with_reducible refine st_frz_own ?_ | with_reducible refine st_frz_top ?_ | with_reducible refine st_frz_own_ll ?_ | with_reducible refine st_frz_own_dc ?_ | with_reducible refine st_frz_top_ll ?_ | with_reducible refine st_frz_top_dc ?_ | with_reducible refine st_frzAll_nil ?_ | with_reducible refine st_frzAll_cons ?_
    | with_reducible refine st_if ?_ | with_reducible refine st_B ?_ | with_reducible refine st_and ?_ | with_reducible refine st_or ?_ | with_reducible refine st_not ?_ | with_reducible refine st_yes ?_ | with_reducible refine st_isB ?_ | with_reducible refine st_t ?_ | with_reducible refine st_f ?_ | ((with_reducible refine st_iteT ?_ ?_); decide) | ((with_reducible refine st_iteF ?_ ?_); decide)
    | with_reducible refine st_nt ?_ | with_reducible refine st_nf ?_
    | with_reducible refine st_ret ?_ | with_reducible refine st_next ?_ | with_reducible refine st_retN ?_ | with_reducible refine st_drop ?_ | with_reducible refine st_break ?_ | with_reducible refine st_raise ?_
    | with_reducible refine st_out_d ?_ | with_reducible refine st_out_own ?_ | with_reducible refine st_out_top ?_
    | with_reducible refine st_tup ?_ | with_reducible refine st_lst ?_ | with_reducible refine st_un ?_ | with_reducible refine st_blt ?_ | with_reducible refine st_lookAll_nil ?_ | with_reducible refine st_lookAll_cons ?_
    | with_reducible refine st_unp ?_ | with_reducible refine st_par ?_ | with_reducible refine st_setIx ?_ | with_reducible refine st_onL ?_ | with_reducible refine st_for ?_ | with_reducible refine st_wipe_nil ?_ | with_reducible refine st_wipe_cons ?_ | with_reducible refine st_andV ?_ | with_reducible refine st_orV ?_ | with_reducible refine st_notV ?_ | with_reducible refine st_ifE ?_ | with_reducible refine st_chain ?_
    | with_reducible refine st_sl ?_ | with_reducible refine st_noPart ?_ | with_reducible refine st_part ?_ | with_reducible refine st_lc ?_ | with_reducible refine st_lm ?_
    | with_reducible refine st_seqI ?_ | with_reducible refine st_range1 ?_ | with_reducible refine st_range2 ?_ | with_reducible refine st_enum ?_ | with_reducible refine st_zip ?_
    | with_reducible refine st_nm ?_ | with_reducible refine st_tp ?_ | with_reducible refine st_tps_nil ?_ | with_reducible refine st_tps_cons ?_
    | ((with_reducible refine st_mod_i ?_ ?_); (first | decide | omega)) | ((with_reducible refine st_fdiv_i ?_ ?_); decide) 
    | with_reducible refine st_add_i ?_ | with_reducible refine st_sub_i ?_ | with_reducible refine st_neg_i ?_ | with_reducible refine st_eq_i ?_ | with_reducible refine st_ne_i ?_ | with_reducible refine st_eq_str ?_ | with_reducible refine st_ne_str ?_ | with_reducible refine st_eq_b ?_ | with_reducible refine st_ne_b ?_ | with_reducible refine st_lt_i ?_ | with_reducible refine st_le_i ?_ | with_reducible refine st_gt_i ?_ | with_reducible refine st_ge_i ?_
    | with_reducible refine st_is_n ?_ | with_reducible refine st_isNot_n ?_ | with_reducible refine st_is_b ?_ | with_reducible refine st_isNot_b ?_ | ((with_reducible refine st_ix_l (x := ?_) ?_ ?_); rotate_left; eq_refl) | ((with_reducible refine st_ix_t (x := ?_) ?_ ?_); rotate_left; eq_refl) | with_reducible refine st_len_l ?_ | with_reducible refine st_len_t ?_ | with_reducible refine st_len_lit ?_
    | with_reducible refine st_abs ?_ | with_reducible refine st_max2 ?_ | with_reducible refine st_min2 ?_ | with_reducible refine st_int_i ?_ | with_reducible refine st_int_b ?_ | with_reducible refine st_tuple_l ?_ | with_reducible refine st_tuple_t ?_ | with_reducible refine st_list_l ?_ | with_reducible refine st_list_t ?_ | ((with_reducible refine st_isT ?_ ?_); eq_refl) | ((with_reducible refine st_isTT ?_ ?_); eq_refl) | ((with_reducible refine st_isTF ?_ ?_); eq_refl) | ((with_reducible refine st_isNT ?_ ?_); eq_refl) | ((with_reducible refine st_isNF ?_ ?_); eq_refl)
    | with_reducible refine st_rg1 ?_ | with_reducible refine st_rg2 ?_ | with_reducible refine st_enumL ?_ | with_reducible refine st_zipS ?_ | with_reducible refine st_rev_l ?_ | with_reducible refine st_rev_t ?_
    | with_reducible refine st_ne_ll ?_ | with_reducible refine st_ne_lit ?_ | with_reducible refine st_in_pt ?_ | with_reducible refine st_in_pl ?_
    | with_reducible refine st_sl_l ?_ | with_reducible refine st_sl_t ?_
    | ((with_reducible refine st_iteLen ?_ ?_); eq_refl) | ((with_reducible refine st_iteNLen ?_ ?_); eq_refl) | with_reducible refine st_iteBB ?_ | ((with_reducible refine st_iteND ?_ ?_); omega) | ((with_reducible refine st_iteNF ?_ ?_); omega)
    | ((with_reducible refine st_iteT (decide_eq_true ?_) ?_); omega) | ((with_reducible refine st_iteF (decide_eq_false ?_) ?_); omega))
local macro_rules
  | `(tactic| sizeOf_list_dec) => `(tactic| with_reducible refine stepTo ?_)
local macro_rules
  | `(tactic| array_get_dec) => `(tactic| repeat sizeOf_list_dec)
local macro_rules
  | `(tactic| sizeOf_list_dec) => `(tactic| first | with_reducible refine st_ix2_l ?_ | with_reducible refine st_ix2_t ?_ | with_reducible refine st_ix2_s ?_ | with_reducible refine st_ix2_lit ?_ | with_reducible refine st_inK_l ?_ | with_reducible refine st_inK_t ?_ | with_reducible refine st_ninK_l ?_ | with_reducible refine st_ninK_t ?_ | with_reducible refine st_setD ?_ | with_reducible refine st_onDc ?_ | with_reducible refine st_dget2 ?_ | with_reducible refine st_emT ?_ | with_reducible refine st_emD ?_ | with_reducible refine st_disp1 ?_ | with_reducible refine st_disp1k ?_ | with_reducible refine st_range3 ?_ | with_reducible refine st_bor ?_ | with_reducible refine st_borT ?_ | with_reducible refine st_bindT_nil ?_ | with_reducible refine st_bindT_d ?_ | with_reducible refine st_bindT_o ?_ | with_reducible refine st_bindT_t ?_ | with_reducible refine st_toPs_nil ?_ | with_reducible refine st_toPs_d ?_ | with_reducible refine st_toPs_l ?_ | with_reducible refine st_toPs_dc ?_ | with_reducible refine st_tupO ?_ | with_reducible refine st_var_tp ?_ | with_reducible refine st_frz_own_tp ?_ | with_reducible refine st_frz_top_tp ?_ | with_reducible refine st_lmP ?_ | ((with_reducible refine st_onP ?_ ?_); eq_refl) | with_reducible refine st_flat_b ?_ | with_reducible refine st_flat_i ?_)
theorem is_whole_ok {z : Int} {X : XF} {Q : R → S → Prop} (h : ∀ fin, Q (.d (.bool true)) fin) : m_is_whole [.d (.int z)] X Q := by
  unfold m_is_whole b_is_whole
  refine st_sem rfl ?_
  array_get_dec
  exact h _
local macro_rules
  | `(tactic| sizeOf_list_dec) => `(tactic| with_reducible refine is_whole_ok fun _ => ?_)
theorem is_below_ok {z m : Int} {X : XF} {Q : R → S → Prop} (h : ∀ fin, Q (.d (.bool (decide (0 ≤ z ∧ z < m)))) fin) : m_is_below [.d (.int z), .d (.int m)] X Q := by
  unfold m_is_below b_is_below
  refine st_sem rfl ?_
  array_get_dec
  refine st_ite (fun q => ?_) (fun q => ?_)
  · have q := of_decide_eq_true q
    array_get_dec
    rw [show decide (z < m) = decide (0 ≤ z ∧ z < m) by simp [q]]
    exact h _
  · have q := of_decide_eq_false q
    array_get_dec
    rw [show false = decide (0 ≤ z ∧ z < m) by simp [q]]
    exact h _
local macro_rules
  | `(tactic| sizeOf_list_dec) => `(tactic| first | ((with_reducible refine st_isX (b := false) ?_ ?_); (decide +kernel)) | ((with_reducible refine st_isX (b := true) ?_ ?_); (decide +kernel)) | with_reducible refine st_try ?_)
theorem stir_ok {c a : Int} (ha0 : 0 ≤ a) (ha : a ≤ 2 ^ 64) {X : XF} {Q : R → S → Prop} (h : ∀ z fin, Q (.d (.int z)) fin) : m__law_e_stir [.d (.int c), .d (.int a)] X Q := by
  unfold m__law_e_stir b__law_e_stir
  refine st_sem rfl ?_
  array_get_dec
  refine st_ite (fun q => ?_) (fun q => ?_)
  · array_get_dec
    exact h _ _
  · array_get_dec
    refine st_mul_i (okM_of 40 40 (by omega) (by decide)) ?_
    array_get_dec
    refine st_mul_i (okM_of 65 40 (by omega) (by decide)) ?_
    array_get_dec
    refine st_mul_i (okM_of 40 40 (by omega) (by omega)) ?_
    array_get_dec
    refine st_mul_i (okM_of 40 65 (by decide) (by omega)) ?_
    array_get_dec
    refine st_mul_i (okM_of 80 65 (by omega) (by omega)) ?_
    array_get_dec
    refine st_mul_i (okM_of 40 40 (by decide) (by omega)) ?_
    array_get_dec
    refine st_mul_i (okM_of 40 40 (by omega) (by omega)) ?_
    array_get_dec
    refine st_mul_i (okM_of 40 40 (by decide) (by omega)) ?_
    array_get_dec
    refine st_mul_i (okM_of 40 40 (by omega) (by decide)) ?_
    array_get_dec
    exact h _ _
theorem dip_ok {ns : List Int} {F : Nat} {xs : List D} {m : Int} (hc : Cup ns (F + 1) xs) (hm : 0 < m) (hm2 : m.natAbs < 2 ^ 8999) {X : XF} {Q : R → S → Prop} (h : ∀ r xs', Cup ns F xs' → 0 ≤ r → r < m → Q (.d (.int r)) [.l xs', .d (.int m)]) :
    m__law_e_dip [.l xs, .d (.int m)] X Q := by
  obtain ⟨a, v, rfl, h0, h1⟩ := hc
  unfold m__law_e_dip b__law_e_dip
  have ok : okD m := okD_of 8999 hm hm2
  refine st_sem rfl ?_
  refine st_join (fun s => ∃ (a' v' : Int) (x2 x3 : SV), s = [.l [litD ns, .int a', .int v'], .d (.int m), x2, x3, .no] ∧ 0 ≤ a' ∧ a' + (F : Int) ≤ 2 ^ 64) ?_ ?_
  · rintro s ⟨a', v', x2, x3, rfl, h0', h1'⟩
    array_get_dec
    refine st_fdiv_i ok ?_
    array_get_dec
    refine ⟨by decide, by simp, ?_⟩
    array_get_dec
    exact h _ _ ⟨a', v' / m, rfl, h0', h1'⟩ (Int.emod_nonneg _ (by omega)) (Int.emod_lt_of_pos _ hm)
  · intro k hk
    array_get_dec
    refine st_ite (fun q => ?_) (fun q => ?_)
    · have last : ∀ c : Int, fSeq (fSetIx 0 (fC (PyData.int 1)) (fOp opAdd (fVar 2) (fC (PyData.int 1)))) (fSetIx 0 (fC (PyData.int 2)) (fCall m__law_e_stir [false, false] (fCons (fVar 3) (fCons (fVar 2) fNil))))
          ⟨k, fun r s => outR r s fun r' s' => Q r' (s'.take 2), fun _ => False, fun _ => False, fun n s => X n (s.take 2)⟩ [.l [litD ns, .int a, .int v], .d (.int m), .d (.int a), .d (.int c), .no] := by
        intro c
        array_get_dec
        refine ⟨by decide, by simp, ?_⟩
        array_get_dec
        refine stir_ok h0 (by omega) fun z fin => ?_
        array_get_dec
        refine ⟨by decide, by simp, ?_⟩
        array_get_dec
        exact hk _ ⟨a + 1, z, _, _, rfl, by omega, by omega⟩
      array_get_dec
      refine st_mul_i (okM_of 40 65 (by decide) (by omega)) ?_
      array_get_dec
      refine st_ite (fun q2 => ?_) (fun q2 => ?_)
      · array_get_dec
        have q2 := of_decide_eq_true q2
        obtain ⟨z, hz⟩ := at_ok h0 q2
        refine st_ix_lit hz ?_
        array_get_dec
        exact last _
      · array_get_dec
        refine st_ite (fun q3 => ?_) (fun q3 => ?_)
        · have q3 := of_decide_eq_true q3
          array_get_dec
          refine st_mul_i (okM_of 40 65 (by decide) (by omega)) ?_
          array_get_dec
          obtain ⟨z, hz⟩ := at_ok (ns := ns) (i := (5 * a + 2) % (ns.length : Int)) (Int.emod_nonneg _ (by omega)) (Int.emod_lt_of_pos _ q3)
          refine st_ix_lit hz ?_
          array_get_dec
          refine st_mul_i (okM_of 65 40 (by omega) (by decide)) ?_
          array_get_dec
          exact last _
        · array_get_dec
          exact last _
    · array_get_dec
      exact hk _ ⟨a, v, _, _, rfl, h0, by omega⟩
theorem eweb_of_ok {ns : List Int} {F : Nat} {xs : List D} {n : Int} (hc : Cup ns (F + 101) xs) (h0 : 0 ≤ n) (h10 : n ≤ 10) {X : XF} {Q : R → S → Prop} (h : ∀ ts xs', Cup ns F xs' → Good n ts → Q (.d (webD n ts)) [.l xs', .d (.int n)]) :
    m__law_e_web_of [.l xs, .d (.int n)] X Q := by
  unfold m__law_e_web_of b__law_e_web_of
  refine st_sem rfl ?_
  array_get_dec
  refine dip_ok (F := F + 100) hc (by decide) (by decide) fun often xs1 hc1 ho0 ho1 => ?_
  array_get_dec
  refine ⟨by unfold lim62; omega, ?_⟩
  array_get_dec
  refine loop_range1 (hi := n) (fun i s => ∃ (ts : List (Int × Int)) (xs : List D), s = [.l xs, .d (.int n), .d (.int often), .l (ts.map pairD), .no, .no] ∧ Cup ns (F + 10 * (10 - i).toNat) xs ∧ (∀ p ∈ ts, 0 ≤ p.1 ∧ p.1 < p.2 ∧ p.2 < n ∧ p.1 < i) ∧ ts.Pairwise (fun p q => ltPr p q = true) ∧ (ts.length : Int) ≤ 10 * i) ?_ ?_ ?_
  · rintro s ⟨ts, xs, rfl, hc, hp, hs, hl⟩
    array_get_dec
    exact h ts xs (hc.less (by omega)) ⟨h0, h10, fun p hm => ⟨(hp p hm).1, (hp p hm).2.1, (hp p hm).2.2.1⟩, hs, by omega⟩
  · rintro i s k hi hin ⟨ts, xs, rfl, hc, hp, hs, hl⟩ hk
    array_get_dec
    refine ⟨by unfold lim62; omega, by unfold lim62; omega, ?_⟩
    array_get_dec
    refine loop_range (lo := i + 1) (hi := n) (fun j s => ∃ (ts : List (Int × Int)) (xs : List D), s = [.l xs, .d (.int n), .d (.int often), .l (ts.map pairD), .d (.int i), .no] ∧ Cup ns (F + 10 * (10 - (i + 1)).toNat + (10 - j).toNat) xs ∧ (∀ p ∈ ts, 0 ≤ p.1 ∧ p.1 < p.2 ∧ p.2 < n ∧ (p.1 < i ∨ p.1 = i ∧ p.2 < j)) ∧ ts.Pairwise (fun p q => ltPr p q = true) ∧ (ts.length : Int) ≤ 10 * i + j) ?_ ?_ ?_
    · rintro s ⟨ts, xs, rfl, hc, hp, hs, hl⟩
      refine hk _ ⟨ts, xs, rfl, hc.less (by omega), fun p hm => ?_, hs, by omega⟩
      obtain ⟨p1, p2, p3, p4⟩ := hp p hm
      exact ⟨p1, p2, p3, by omega⟩
    · rintro j s k2 hj hjn ⟨ts, xs, rfl, hc, hp, hs, hl⟩ hk2
      array_get_dec
      refine dip_ok (F := F + 10 * (10 - (i + 1)).toNat + (10 - (j + 1)).toNat) (hc.less (by omega)) (by decide) (by decide) fun r xs' hc' hr0 hr1 => ?_
      array_get_dec
      refine st_ite (fun q => ?_) (fun q => ?_)
      · array_get_dec
        refine st_append (by rw [List.length_map]; show _ < 16777216; omega) ?_
        array_get_dec
        refine hk2 _ ⟨ts ++ [(i, j)], xs', by rw [List.map_append]; rfl, hc', fun p hm => ?_, ?_, by rw [List.length_append]; simp; omega⟩
        · rcases List.mem_append.mp hm with hm | hm
          · obtain ⟨p1, p2, p3, p4⟩ := hp p hm
            exact ⟨p1, p2, p3, by omega⟩
          · obtain rfl : p = (i, j) := by simpa using hm
            exact ⟨by omega, by show i < j; omega, hjn, .inr ⟨rfl, by show j < j + 1; omega⟩⟩
        · refine List.pairwise_append.mpr ⟨hs, by simp, fun p hm q hq => ?_⟩
          obtain rfl : q = (i, j) := by simpa using hq
          obtain ⟨p1, p2, p3, p4⟩ := hp p hm
          unfold ltPr
          simp only [Bool.or_eq_true, decide_eq_true_eq, Bool.and_eq_true, beq_iff_eq]
          omega
      · array_get_dec
        refine hk2 _ ⟨ts, xs', rfl, hc', fun p hm => ?_, hs, by omega⟩
        obtain ⟨p1, p2, p3, p4⟩ := hp p hm
        exact ⟨p1, p2, p3, by omega⟩
    · refine ⟨ts, xs, rfl, hc.less (by omega), fun p hm => ?_, hs, by omega⟩
      obtain ⟨p1, p2, p3, p4⟩ := hp p hm
      exact ⟨p1, p2, p3, .inl p4⟩
  · exact ⟨[], xs1, rfl, hc1.less (by omega), fun p hm => (nomatch hm), .nil, by simp⟩
theorem e_web_ok {ns : List Int} {F : Nat} {xs : List D} {m : Int} (hc : Cup ns (F + 102) xs) (h0 : 0 ≤ m) (h10 : m ≤ 10) {X : XF} {Q : R → S → Prop} (h : ∀ n ts xs', Cup ns F xs' → Good n ts → n ≤ m → Q (.d (webD n ts)) [.l xs', .d (.int m)]) :
    m__law_e_web [.l xs, .d (.int m)] X Q := by
  unfold m__law_e_web b__law_e_web
  refine st_sem rfl ?_
  array_get_dec
  refine dip_ok (F := F + 101) hc (by omega) (by omega) fun r xs2 hc2 hr0 hr1 => ?_
  array_get_dec
  refine eweb_of_ok (F := F) hc2 hr0 (by omega) fun ts xs3 hc3 g => ?_
  array_get_dec
  exact h r ts xs3 hc3 g (by omega)
theorem cut_from {α : Type} {f : α → D} {ks : List α} {i : Nat} : slD.cutL (ks.map f) (some (i : Int)) none = (ks.drop i).map f := by
  unfold slD.cutL
  rw [HT.sIx_none, HT.sIx_nat, List.length_map, ← List.map_drop, ← List.map_take]
  congr 1
  by_cases h : i ≤ ks.length
  · rw [Nat.min_eq_left h, List.take_of_length_le (by rw [List.length_drop]; omega)]
  · rw [Nat.min_eq_right (by omega), List.drop_eq_nil_of_le (by omega), List.drop_eq_nil_of_le (by omega), List.take_nil]
theorem any_int {ks : List Int} {z : Int} : ((ks.map PyData.int).any fun y => PyData.eqv y (.int z)) = decide (z ∈ ks) := by
  rw [List.any_map]
  apply Bool.eq_iff_iff.mpr
  simp only [List.any_eq_true, Function.comp, decide_eq_true_eq]
  constructor
  · rintro ⟨y, h, e⟩
    have e : decide (y = z) = true := by simpa [PyData.eqv] using e
    rw [← of_decide_eq_true e]; exact h
  · intro h; exact ⟨z, h, by simp [PyData.eqv]⟩
theorem st_in_il {ks : List Int} {z : Int} {k : R → Prop} (h : k (.d (.bool (decide (z ∈ ks))))) : cIn (.int z) (.list (ks.map .int)) k := by
  refine st_in_l shaped_int shaped_intsL ?_
  rw [any_int]; exact h
theorem st_in_it {ks : List Int} {z : Int} {k : R → Prop} (h : k (.d (.bool (decide (z ∈ ks))))) : cIn (.int z) (.tuple (ks.map .int)) k := by
  refine st_in_t shaped_int shaped_intsT ?_
  rw [any_int]; exact h
theorem st_notIn_il {ks : List Int} {z : Int} {k : R → Prop} (h : k (.d (.bool (!decide (z ∈ ks))))) : cNotIn (.int z) (.list (ks.map .int)) k := by
  refine st_notIn_l shaped_int shaped_intsL ?_
  rw [any_int]; exact h
theorem st_notIn_it {ks : List Int} {z : Int} {k : R → Prop} (h : k (.d (.bool (!decide (z ∈ ks))))) : cNotIn (.int z) (.tuple (ks.map .int)) k := by
  refine st_notIn_t shaped_int shaped_intsT ?_
  rw [any_int]; exact h
local macro_rules
  | `(tactic| sizeOf_list_dec) => `(tactic| first | with_reducible refine st_in_il ?_ | with_reducible refine st_in_it ?_ | with_reducible refine st_notIn_il ?_ | with_reducible refine st_notIn_it ?_ | with_reducible refine st_ne_ll ?_)
def Up (ps : List (Int × Int)) : Prop := ps.Pairwise (fun p q => ltPr p q = true)
theorem ltPr_iff {p q : Int × Int} : ltPr p q = true ↔ p.1 < q.1 ∨ p.1 = q.1 ∧ p.2 < q.2 := by
  unfold ltPr
  simp only [Bool.or_eq_true, decide_eq_true_eq, Bool.and_eq_true, beq_iff_eq]
/-- the rows gone through up to (i, j): just the pairs for which f says yes -/
structure Upto (n : Int) (f : Int → Int → Prop) (i j : Int) (ts : List (Int × Int)) : Prop where
  up : Up ts
  mem : ∀ p, p ∈ ts ↔ 0 ≤ p.1 ∧ p.1 < p.2 ∧ p.2 < n ∧ f p.1 p.2 ∧ (p.1 < i ∨ p.1 = i ∧ p.2 < j)
  few : (ts.length : Int) ≤ 10 * i + j
theorem Upto.start {n : Int} {f : Int → Int → Prop} : Upto n f 0 0 [] := ⟨.nil, fun p => ⟨fun h => (nomatch h), fun ⟨h1, h2, h3, h4, h5⟩ => by omega⟩, by simp⟩
theorem Upto.row {n i : Int} {f : Int → Int → Prop} {ts : List (Int × Int)} (hi : 0 ≤ i) (h : Upto n f i 0 ts) : Upto n f i (i + 1) ts := ⟨h.up, fun p => by
  rw [h.mem]
  constructor
  · rintro ⟨h1, h2, h3, h4, h5⟩; exact ⟨h1, h2, h3, h4, by omega⟩
  · rintro ⟨h1, h2, h3, h4, h5⟩; exact ⟨h1, h2, h3, h4, by omega⟩, by have := h.few; omega⟩
theorem Upto.no {n i j : Int} {f : Int → Int → Prop} {ts : List (Int × Int)} (h : Upto n f i j ts) (hf : ¬ f i j) : Upto n f i (j + 1) ts := ⟨h.up, fun p => by
  rw [h.mem]
  constructor
  · rintro ⟨h1, h2, h3, h4, h5⟩; exact ⟨h1, h2, h3, h4, by omega⟩
  · rintro ⟨h1, h2, h3, h4, h5⟩
    refine ⟨h1, h2, h3, h4, ?_⟩
    by_cases e : p.1 = i ∧ p.2 = j
    · rw [e.1, e.2] at h4; exact (hf h4).elim
    · omega, by have := h.few; omega⟩
/-- all the rows -/
structure Whole (n : Int) (f : Int → Int → Prop) (ts : List (Int × Int)) : Prop where
  up : Up ts
  mem : ∀ p, p ∈ ts ↔ 0 ≤ p.1 ∧ p.1 < p.2 ∧ p.2 < n ∧ f p.1 p.2
  few : ts.length ≤ 1000
/-- rising pairs below ten are few -/
theorem up_few {ps : List (Int × Int)} (h : Up ps) (hb : ∀ p ∈ ps, 0 ≤ p.1 ∧ p.1 < 10 ∧ 0 ≤ p.2 ∧ p.2 < 10) : ps.length ≤ 100 := by
  have go : ∀ (l : List Nat), l.Pairwise (· < ·) → (∀ x ∈ l, x < 100) → ∀ m, (∀ x ∈ l, m ≤ x) → m ≤ 100 → l.length + m ≤ 100 := by
    intro l
    induction l with
    | nil => intro _ _ m _ h; simpa using h
    | cons a l ih =>
      intro hp hx m hm _
      obtain ⟨h1, h2⟩ := List.pairwise_cons.mp hp
      have := ih h2 (fun x hx' => hx x (List.mem_cons_of_mem _ hx')) (a + 1) (fun x hx' => h1 x hx') (by have := hx a List.mem_cons_self; omega)
      have := hm a List.mem_cons_self
      rw [List.length_cons]
      omega
  have h2 : (ps.map fun p => (p.1 * 10 + p.2).toNat).Pairwise (· < ·) := by
    refine List.pairwise_map.mpr (List.Pairwise.imp_of_mem ?_ h)
    intro a b ha hb' hab
    have h1 := hb a ha
    have h2 := hb b hb'
    have h3 := ltPr_iff.mp hab
    omega
  have := go _ h2 (fun x hx => by
    obtain ⟨p, hp, rfl⟩ := List.mem_map.mp hx
    have := hb p hp
    omega) 0 (fun _ _ => Nat.zero_le _) (by decide)
  simpa using this
theorem Whole.of {n : Int} {f : Int → Int → Prop} {ts : List (Int × Int)} (h10 : n ≤ 10) (hu : Up ts) (hm : ∀ p, p ∈ ts ↔ 0 ≤ p.1 ∧ p.1 < p.2 ∧ p.2 < n ∧ f p.1 p.2) : Whole n f ts := ⟨hu, hm, Nat.le_trans (up_few hu fun p hp => by have := (hm p).mp hp; omega) (by decide)⟩
theorem good_few {n : Int} {ts : List (Int × Int)} (g : Good n ts) : ts.length ≤ 100 := up_few g.up fun p hp => by have := g.ties p hp; have := g.n10; omega
theorem divmod {x m a : Int} (h0 : 0 ≤ a) (h1 : a < m) : (x * m + a) / m = x ∧ (x * m + a) % m = a := by
  rw [Int.add_comm, Int.add_mul_ediv_right _ _ (by omega), Int.add_mul_emod_self_right, Int.ediv_eq_zero_of_lt h0 h1, Int.emod_eq_of_lt h0 h1]
  exact ⟨by omega, rfl⟩
theorem uniq {x y m a b : Int} (h0 : 0 ≤ a) (h1 : a < m) (h2 : 0 ≤ b) (h3 : b < m) (e : x * m + a = y * m + b) : x = y ∧ a = b := by
  have h := divmod (x := x) h0 h1
  have k := divmod (x := y) h2 h3
  rw [e] at h
  exact ⟨h.1.symm.trans k.1, h.2.symm.trans k.2⟩
theorem eqv_prs : ∀ ts us : List (Int × Int), PyData.eqvAll (ts.map pairD) (us.map pairD) = decide (ts = us)
  | [], [] => rfl
  | [], _ :: _ => rfl
  | _ :: _, [] => rfl
  | t :: ts, u :: us => by
    show (PyData.eqv (pairD t) (pairD u) && PyData.eqvAll (ts.map pairD) (us.map pairD)) = _
    rw [eqv_prs ts us, eqv_pair]
    by_cases h1 : t = u <;> by_cases h2 : ts = us <;> simp [h1, h2]
theorem eqv_web {n m : Int} {ts us : List (Int × Int)} : PyData.eqv (webD n ts) (webD m us) = decide (n = m ∧ ts = us) := by
  show (PyData.eqv (.int n) (.int m) && (PyData.eqvAll (ts.map pairD) (us.map pairD) && true)) = _
  rw [eqv_prs, Bool.and_true]
  simp only [PyData.eqv]
  by_cases h1 : n = m <;> by_cases h2 : ts = us <;> simp [h1, h2]
theorem st_ne_web {n m : Int} {ts us : List (Int × Int)} {k : R → Prop} (h : k (.d (.bool (!decide (n = m ∧ ts = us))))) : cNe (webD n ts) (webD m us) k := by
  refine st_ne (x := webD n ts) (y := webD m us) shaped_web shaped_web ?_
  show k (.d (.bool (!PyData.eqv (webD n ts) (webD m us))))
  rw [eqv_web]
  exact h
theorem st_ne_webS {n : Int} {ts : List (Int × Int)} {k : R → Prop} (h : k (.d (.bool false))) : cNe (webD n ts) (webD n ts) k := by
  refine st_ne_web ?_
  rw [decide_eq_true ⟨rfl, rfl⟩]
  exact h
def sn (n : Int) : Str := toString n
def dgs (n : Int) : List Nat := (sn n).cps.toList
def FIG : List Nat := [48, 49, 50, 51, 52, 53, 54, 55, 56, 57]
theorem sn_S (n : Int) : sn n = SX.S (dgs n) := (SX.S_tl _).symm
theorem ten {p : Int → Prop} (h : p 0 ∧ p 1 ∧ p 2 ∧ p 3 ∧ p 4 ∧ p 5 ∧ p 6 ∧ p 7 ∧ p 8 ∧ p 9 ∧ p 10) {n : Int} (h0 : 0 ≤ n) (h10 : n ≤ 10) : p n := by
  obtain ⟨a, b, c, d, e, f, g, i, j, k, l⟩ := h
  rcases (show n = 0 ∨ n = 1 ∨ n = 2 ∨ n = 3 ∨ n = 4 ∨ n = 5 ∨ n = 6 ∨ n = 7 ∨ n = 8 ∨ n = 9 ∨ n = 10 by omega) with rfl | rfl | rfl | rfl | rfl | rfl | rfl | rfl | rfl | rfl | rfl <;> assumption
structure Dg (n : Int) : Prop where
  l1 : 1 ≤ (sn n).length
  l2 : (sn n).length ≤ 2
  fig : ∀ c ∈ dgs n, c ∈ FIG
  int : PySem.intText? (sn n) = some n
  lead : sn n = ("0" : Str) ∨ ∃ c r, dgs n = c :: r ∧ c ≠ 48
theorem dg {n : Int} (h0 : 0 ≤ n) (h10 : n ≤ 10) : Dg n := by
  have a : 1 ≤ (sn n).length := ten (p := fun n => 1 ≤ (sn n).length) ⟨by decide +kernel, by decide +kernel, by decide +kernel, by decide +kernel, by decide +kernel, by decide +kernel, by decide +kernel, by decide +kernel, by decide +kernel, by decide +kernel, by decide +kernel⟩ h0 h10
  have b : (sn n).length ≤ 2 := ten (p := fun n => (sn n).length ≤ 2) ⟨by decide +kernel, by decide +kernel, by decide +kernel, by decide +kernel, by decide +kernel, by decide +kernel, by decide +kernel, by decide +kernel, by decide +kernel, by decide +kernel, by decide +kernel⟩ h0 h10
  have c : ∀ c ∈ dgs n, c ∈ FIG := ten (p := fun n => ∀ c ∈ dgs n, c ∈ FIG) ⟨by decide +kernel, by decide +kernel, by decide +kernel, by decide +kernel, by decide +kernel, by decide +kernel, by decide +kernel, by decide +kernel, by decide +kernel, by decide +kernel, by decide +kernel⟩ h0 h10
  have d : PySem.intText? (sn n) = some n := ten (p := fun n => PySem.intText? (sn n) = some n) ⟨by decide +kernel, by decide +kernel, by decide +kernel, by decide +kernel, by decide +kernel, by decide +kernel, by decide +kernel, by decide +kernel, by decide +kernel, by decide +kernel, by decide +kernel⟩ h0 h10
  have e : sn n = ("0" : Str) ∨ ((dgs n).head? ≠ some 48 ∧ dgs n ≠ []) := ten (p := fun n => sn n = ("0" : Str) ∨ ((dgs n).head? ≠ some 48 ∧ dgs n ≠ [])) ⟨by decide +kernel, by decide +kernel, by decide +kernel, by decide +kernel, by decide +kernel, by decide +kernel, by decide +kernel, by decide +kernel, by decide +kernel, by decide +kernel, by decide +kernel⟩ h0 h10
  refine ⟨a, b, c, d, e.imp id fun ⟨h1, h2⟩ => ?_⟩
  cases hd : dgs n with
  | nil => exact absurd hd h2
  | cons x r => exact ⟨x, r, rfl, fun q => h1 (by rw [hd, q]; rfl)⟩
/-- a tie's text -/
def tieL (p : Int × Int) : List Nat := TL.joinL [45] [dgs p.1, dgs p.2]
def headL (n : Int) : List Nat := TL.joinL [32] [[112, 108, 97, 99, 101, 115], dgs n]
def partsL (n : Int) (ts : List (Int × Int)) : List (List Nat) := headL n :: ts.map tieL
def webL (n : Int) (ts : List (Int × Int)) : List Nat := TL.joinL [59, 32] (partsL n ts)
theorem tieL_eq (p : Int × Int) : tieL p = dgs p.1 ++ ([45] ++ dgs p.2) := rfl
theorem headL_eq (n : Int) : headL n = [112, 108, 97, 99, 101, 115] ++ ([32] ++ dgs n) := rfl
theorem joinL_snoc {s : List Nat} : ∀ {ps : List (List Nat)} {p : List Nat}, ps ≠ [] → TL.joinL s (ps ++ [p]) = TL.joinL s ps ++ (s ++ p)
  | [], _, h => absurd rfl h
  | [a], p, _ => rfl
  | a :: b :: r, p, _ => by
    show a ++ (s ++ TL.joinL s (b :: r ++ [p])) = a ++ (s ++ TL.joinL s (b :: r)) ++ (s ++ p)
    rw [joinL_snoc (ps := b :: r) (by simp)]
    simp only [List.append_assoc]
theorem web_snoc {n : Int} {ts : List (Int × Int)} {p : Int × Int} : webL n (ts ++ [p]) = webL n ts ++ ([59, 32] ++ tieL p) := by
  unfold webL partsL
  rw [List.map_append, ← List.cons_append]
  exact joinL_snoc (by simp)
local macro_rules
  | `(tactic| sizeOf_list_dec) => `(tactic| with_reducible refine st_emD ?_)
/-- no script or error within, nothing too long: n deep -/
def okB : Nat → D → Bool
  | 0, _ => true
  | n + 1, d => !isLit d && match d with
    | .tuple xs => decide (xs.length ≤ 1000) && xs.all (okB n)
    | _ => true
theorem okB_lit {n : Nat} {d : D} (h : okB (n + 1) d = true) : isLit d = false := by
  unfold okB at h
  simp only [Bool.and_eq_true, Bool.not_eq_true'] at h
  exact h.1
theorem okB_tup {n : Nat} {xs : List D} (h : okB (n + 1) (.tuple xs) = true) : xs.length ≤ 1000 ∧ ∀ x ∈ xs, okB n x = true := by
  unfold okB at h
  simp only [Bool.and_eq_true, Bool.not_eq_true', decide_eq_true_eq, List.all_eq_true] at h
  exact h.2
def wholeB : D → Bool
  | .int _ => true
  | _ => false
def belowB (n : Int) : D → Bool
  | .int z => decide (0 ≤ z ∧ z < n)
  | _ => false
def tieO (n : Int) : D → Bool
  | .tuple [.int a, .int b] => decide ((0 ≤ a ∧ a < n) ∧ (0 ≤ b ∧ b < n) ∧ a < b)
  | _ => false
def adjP : List (Int × Int) → Bool
  | p :: q :: r => ltPr p q && adjP (q :: r)
  | _ => true
def tiesB (n : Int) : D → Bool
  | .tuple ds => ds.all (tieO n) && match pairsOf ds with
    | some ps => adjP ps
    | none => true
  | _ => false
def webB : D → Bool
  | .tuple [.int n, d] => decide (0 ≤ n ∧ n < 11) && tiesB n d
  | _ => false
theorem isT_gen {T : String} {d : D} {k : R → Prop} (hl : isLit d = false) (h : k (.d (.bool (isTy T d)))) : bIs T d k := ⟨hl, h⟩
theorem is_whole_gen {d : D} (hl : isLit d = false) {X : XF} {Q : R → S → Prop} (h : ∀ fin, Q (.d (.bool (wholeB d))) fin) : m_is_whole [.d d] X Q := by
  unfold m_is_whole b_is_whole
  refine st_sem rfl ?_
  refine st_ret ?_
  refine st_andV ?_
  refine st_un ?_
  array_get_dec
  refine isT_gen hl ?_
  cases d with
  | bool b => array_get_dec; exact h _
  | int z => array_get_dec; exact h _
  | _ => array_get_dec; exact h _
theorem is_below_gen {d : D} {m : Int} (hl : isLit d = false) {X : XF} {Q : R → S → Prop} (h : ∀ fin, Q (.d (.bool (belowB m d))) fin) : m_is_below [.d d, .d (.int m)] X Q := by
  by_cases hw : wholeB d = true
  · cases d with
    | int z => exact is_below_ok h
    | _ => cases hw
  · unfold m_is_below b_is_below
    refine st_sem rfl ?_
    array_get_dec
    refine is_whole_gen hl fun fin => ?_
    have e1 : wholeB d = false := by simpa using hw
    have e2 : belowB m d = false := by cases d <;> first | rfl | cases e1
    rw [e1]
    array_get_dec
    rw [e2] at h
    exact h _
theorem is_tie_gen {n : Int} {d : D} (hd : okB 2 d = true) {X : XF} {Q : R → S → Prop} (h : ∀ fin, Q (.d (.bool (tieO n d))) fin) : m_is_tie [.d (.int n), .d d] X Q := by
  unfold m_is_tie b_is_tie
  refine st_sem rfl ?_
  array_get_dec
  refine isT_gen (okB_lit hd) ?_
  cases d with
  | tuple xs =>
    obtain ⟨hl, hx⟩ := okB_tup hd
    array_get_dec
    match xs, hl, hx, h with
    | [], _, _, h => array_get_dec; exact h _
    | [x], _, _, h =>
      have e : tieO n (.tuple [x]) = false := by cases x <;> rfl
      rw [e] at h
      refine st_iteT rfl ?_
      array_get_dec
      exact h _
    | x :: y :: z :: r, hl, _, h =>
      have e : tieO n (.tuple (x :: y :: z :: r)) = false := by cases x <;> cases y <;> rfl
      rw [e] at h
      refine st_iteT (by simp; omega) ?_
      array_get_dec
      exact h _
    | [x, y], _, hx, h =>
      array_get_dec
      refine is_below_gen (okB_lit (hx x (by simp))) fun fin => ?_
      by_cases h1 : belowB n x = true
      · rw [h1]
        cases x with
        | int a =>
          have h1 := of_decide_eq_true h1
          array_get_dec
          refine is_below_gen (okB_lit (hx y (by simp))) fun fin => ?_
          by_cases h2 : belowB n y = true
          · rw [h2]
            cases y with
            | int b =>
              have h2 := of_decide_eq_true h2
              array_get_dec
              have e : tieO n (.tuple [.int a, .int b]) = decide (a < b) := by
                show decide ((0 ≤ a ∧ a < n) ∧ (0 ≤ b ∧ b < n) ∧ a < b) = _
                simp [h1, h2]
              rw [e] at h
              exact h _
            | _ => cases h2
          · have h2 : belowB n y = false := by simpa using h2
            rw [h2]
            have e : tieO n (.tuple [.int a, y]) = false := by
              cases y with
              | int b =>
                have h2 := of_decide_eq_false h2
                exact decide_eq_false fun z => h2 z.2.1
              | _ => rfl
            rw [e] at h
            array_get_dec
            exact h _
        | _ => cases h1
      · have h1 : belowB n x = false := by simpa using h1
        rw [h1]
        have e : tieO n (.tuple [x, y]) = false := by
          cases x with
          | int a =>
            cases y with
            | int b =>
              have h1 := of_decide_eq_false h1
              exact decide_eq_false fun z => h1 z.1
            | _ => rfl
          | _ => rfl
        rw [e] at h
        array_get_dec
        exact h _
  | _ => array_get_dec; exact h _
theorem rangeI_succO {n : Nat} : rangeI (n + 1) = 0 :: (rangeI n).map (· + 1) := by
  unfold rangeI
  rw [List.range_succ_eq_map, List.map_cons, List.map_map, List.map_map]
  congr 1
theorem adj_range : ∀ ts : List (Int × Int), ((rangeI (ts.length - 1)).all fun k => ltPr (ts.getD k.toNat (0, 0)) (ts.getD (k.toNat + 1) (0, 0))) = adjP ts
  | [] => rfl
  | [p] => rfl
  | p :: q :: r => by
    have ih := adj_range (q :: r)
    show ((rangeI (r.length + 1)).all _) = (ltPr p q && adjP (q :: r))
    rw [← ih, rangeI_succO, List.all_cons, List.all_map]
    congr 1
    show _ = ((rangeI r.length).all _)
    rw [Bool.eq_iff_iff, List.all_eq_true, List.all_eq_true]
    constructor
    · intro h k hk
      have := h k hk
      have k0 := (rangeI_mem.mp hk).1
      simp only [Function.comp] at this
      rw [show (k + 1).toNat = k.toNat + 1 by omega] at this
      exact this
    · intro h k hk
      have := h k hk
      have k0 := (rangeI_mem.mp hk).1
      simp only [Function.comp]
      rw [show (k + 1).toNat = k.toNat + 1 by omega]
      exact this
theorem is_rising_gen {ts : List (Int × Int)} (hl : ts.length ≤ 1000) {X : XF} {Q : R → S → Prop} (h : ∀ fin, Q (.d (.bool (adjP ts))) fin) : m_is_rising [.d (.tuple (ts.map pairD))] X Q := by
  unfold m_is_rising b_is_rising
  refine st_sem rfl ?_
  array_get_dec
  rw [List.length_map]
  refine ⟨by unfold lim62; omega, ?_⟩
  array_get_dec
  refine ⟨by rw [rangeD_len]; show _ ≤ 16777216; omega, ?_⟩
  array_get_dec
  rw [rangeD_map, show ((ts.length : Int) - 1).toNat = ts.length - 1 by omega]
  refine comp_list PyData.int (fun k => .bool (ltPr (ts.getD k.toNat (0, 0)) (ts.getD (k.toNat + 1) (0, 0)))) _ (fun k hk kT hkT => ?_) ?_
  · obtain ⟨k0, k1⟩ := rangeI_mem.mp hk
    obtain ⟨t, rfl⟩ := Int.eq_ofNat_of_zero_le k0
    have h1 : t < ts.length := by omega
    have h2 : t + 1 < ts.length := by omega
    have g1 : L2.atI (ts.map pairD) (t : Int) = some (pairD ts[t]) := L2.atI_nat (by rw [List.getElem?_map, List.getElem?_eq_getElem h1]; rfl)
    have g2 : L2.atI (ts.map pairD) ((t : Int) + 1) = some (pairD ts[t + 1]) := L2.atI_nat (j := t + 1) (by rw [List.getElem?_map, List.getElem?_eq_getElem h2]; rfl)
    array_get_dec
    refine st_ix_t g1 ?_
    array_get_dec
    refine st_ix_t g2 ?_
    array_get_dec
    refine st_lt_t (ns := [ts[t].1, ts[t].2]) (ms := [ts[t + 1].1, ts[t + 1].2]) rfl rfl ?_
    rw [lex_pair]
    array_get_dec
    have e1 : ts.getD (t : Int).toNat (0, 0) = ts[t] := by simp [List.getD_eq_getElem?_getD, h1]
    have e2 : ts.getD ((t : Int).toNat + 1) (0, 0) = ts[t + 1] := by simp [List.getD_eq_getElem?_getD, h2]
    rw [e1, e2] at hkT
    exact hkT
  · array_get_dec
    refine st_all_map ?_
    array_get_dec
    rw [adj_range]
    exact h _
theorem pairs_of_ties {n : Int} : ∀ {ds : List D}, ds.all (tieO n) = true → ∃ ps, pairsOf ds = some ps
  | [], _ => ⟨[], rfl⟩
  | d :: ds, h => by
    rw [List.all_cons, Bool.and_eq_true] at h
    obtain ⟨ps, e⟩ := pairs_of_ties h.2
    have h1 := h.1
    unfold tieO at h1
    split at h1
    · rename_i a b
      exact ⟨(a, b) :: ps, by
        show (match pairOf (.tuple [.int a, .int b]), pairsOf ds with | some p, some ps => some (p :: ps) | _, _ => none) = _
        rw [e]; rfl⟩
    · cases h1
theorem are_ties_gen {n : Int} {d : D} (hd : okB 3 d = true) {X : XF} {Q : R → S → Prop} (h : ∀ fin, Q (.d (.bool (tiesB n d))) fin) : m_are_ties [.d (.int n), .d d] X Q := by
  unfold m_are_ties b_are_ties
  refine st_sem rfl ?_
  array_get_dec
  refine isT_gen (okB_lit hd) ?_
  cases d with
  | tuple ds =>
    obtain ⟨hl, hx⟩ := okB_tup hd
    array_get_dec
    refine ⟨by show _ ≤ 16777216; omega, ?_⟩
    array_get_dec
    refine comp_all (fun d => .bool (tieO n d)) _ _ (fun x hx2 kT hkT => ?_) ?_
    · array_get_dec
      refine is_tie_gen (hx x hx2) fun fin => ?_
      array_get_dec
      exact hkT
    · rw [List.nil_append]
      array_get_dec
      refine st_all_map ?_
      unfold tiesB at h
      by_cases ha : ds.all (tieO n) = true
      · obtain ⟨ps, e⟩ := pairs_of_ties ha
        simp only [ha, e, Bool.true_and] at h
        rw [show (ds.all fun d => tieO n d) = true from ha]
        have e2 := pairsOf_eq e
        subst e2
        rw [List.length_map] at hl
        array_get_dec
        refine is_rising_gen hl fun fin => ?_
        array_get_dec
        exact h _
      · have ha : ds.all (tieO n) = false := by simpa using ha
        simp only [ha, Bool.false_and] at h
        rw [show (ds.all fun d => tieO n d) = false from ha]
        array_get_dec
        exact h _
  | _ => array_get_dec; exact h _
theorem is_web_gen {d : D} (hd : okB 4 d = true) {X : XF} {Q : R → S → Prop} (h : ∀ fin, Q (.d (.bool (webB d))) fin) : m_is_web [.d d] X Q := by
  unfold m_is_web b_is_web
  refine st_sem rfl ?_
  array_get_dec
  refine isT_gen (okB_lit hd) ?_
  cases d with
  | tuple xs =>
    obtain ⟨hl, hx⟩ := okB_tup hd
    array_get_dec
    match xs, hl, hx, h with
    | [], _, _, h => array_get_dec; exact h _
    | [x], _, _, h =>
      have e : webB (.tuple [x]) = false := by cases x <;> rfl
      rw [e] at h
      refine st_iteT rfl ?_
      array_get_dec; exact h _
    | x :: y :: z :: r, hl, _, h =>
      refine st_iteT (by simp; omega) ?_
      have e : webB (.tuple (x :: y :: z :: r)) = false := by cases x <;> rfl
      rw [e] at h
      array_get_dec
      exact h _
    | [x, y], _, hx, h =>
      array_get_dec
      refine is_below_gen (okB_lit (hx x (by simp))) fun fin => ?_
      by_cases h1 : belowB 11 x = true
      · rw [show belowB (10 + 1) x = true from h1]
        cases x with
        | int a =>
          array_get_dec
          refine are_ties_gen (hx y (by simp)) fun fin => ?_
          array_get_dec
          have e : webB (.tuple [.int a, y]) = tiesB a y := by
            show (decide (0 ≤ a ∧ a < 11) && tiesB a y) = _
            rw [show decide (0 ≤ a ∧ a < 11) = true from h1, Bool.true_and]
          rw [e] at h
          exact h _
        | _ => cases h1
      · have h1 : belowB 11 x = false := by simpa using h1
        rw [show belowB (10 + 1) x = false from h1]
        have e : webB (.tuple [x, y]) = false := by
          cases x with
          | int a =>
            show (decide (0 ≤ a ∧ a < 11) && tiesB a y) = _
            rw [show decide (0 ≤ a ∧ a < 11) = false from h1, Bool.false_and]
          | _ => rfl
        rw [e] at h
        array_get_dec
        exact h _
  | _ => array_get_dec; exact h _
theorem need_web_no {d : D} (hd : okB 4 d = true) (hw : webB d = false) {X : XF} {Q : R → S → Prop} (h : ∀ fin, X "NoWeb" fin) : m_need_web [.d d] X Q := by
  unfold m_need_web b_need_web
  refine st_sem rfl ?_
  array_get_dec
  refine is_web_gen hd fun fin => ?_
  rw [hw]
  array_get_dec
  exact h _
theorem joinL_len {s : List Nat} {B : Nat} : ∀ {ps : List (List Nat)}, (∀ p ∈ ps, p.length ≤ B) → (TL.joinL s ps).length ≤ ps.length * (s.length + B)
  | [], _ => Nat.zero_le _
  | [p], h => by
    have := h p List.mem_cons_self
    show p.length ≤ 1 * _
    omega
  | p :: q :: r, h => by
    have ih := joinL_len (s := s) (ps := q :: r) fun x hx => h x (List.mem_cons_of_mem _ hx)
    have := h p List.mem_cons_self
    show (p ++ (s ++ TL.joinL s (q :: r))).length ≤ _
    rw [List.length_append, List.length_append, List.length_cons (a := p), Nat.succ_mul]
    omega
theorem dgs_len {n : Int} (h0 : 0 ≤ n) (h10 : n ≤ 10) : (dgs n).length ≤ 2 := by
  have := (dg h0 h10).l2
  rw [sn_S, SX.S_len] at this
  exact this
def Tn (ts : List (Int × Int)) : Prop := ∀ p ∈ ts, 0 ≤ p.1 ∧ p.1 ≤ 10 ∧ 0 ≤ p.2 ∧ p.2 ≤ 10
theorem good_tn {n : Int} {ts : List (Int × Int)} (g : Good n ts) : Tn ts := fun p hp => by
  have := g.ties p hp
  have := g.n10
  omega
theorem tie_len {p : Int × Int} (h : 0 ≤ p.1 ∧ p.1 ≤ 10 ∧ 0 ≤ p.2 ∧ p.2 ≤ 10) : (tieL p).length ≤ 9 := by
  have h1 := dgs_len h.1 h.2.1
  have h2 := dgs_len h.2.2.1 h.2.2.2
  rw [tieL_eq]
  simp only [List.length_append, List.length_cons, List.length_nil]
  omega
theorem head_len {n : Int} (h0 : 0 ≤ n) (h10 : n ≤ 10) : (headL n).length ≤ 9 := by
  have h1 := dgs_len h0 h10
  rw [headL_eq]
  simp only [List.length_append, List.length_cons, List.length_nil]
  omega
theorem parts_len {n : Int} {ts : List (Int × Int)} (h0 : 0 ≤ n) (h10 : n ≤ 10) (ht : Tn ts) : ∀ p ∈ partsL n ts, p.length ≤ 9 := fun p hp => by
  rcases List.mem_cons.mp hp with rfl | hp
  · exact head_len h0 h10
  · obtain ⟨q, hq, rfl⟩ := List.mem_map.mp hp
    exact tie_len (ht q hq)
theorem web_len {n : Int} {ts : List (Int × Int)} (h0 : 0 ≤ n) (h10 : n ≤ 10) (ht : Tn ts) : (webL n ts).length ≤ (ts.length + 1) * 11 := by
  have := joinL_len (s := [59, 32]) (parts_len h0 h10 ht)
  unfold webL
  refine Nat.le_trans this ?_
  unfold partsL
  rw [List.length_cons, List.length_map]
  exact Nat.le_refl _
theorem sn_small {n : Int} (h0 : 0 ≤ n) (h10 : n ≤ 10) : n.natAbs.log2 < 1920 := Nat.lt_of_le_of_lt (Nat.log2_le_self _) (by omega)
theorem S_app {a b : List Nat} : SX.S a ++ SX.S b = SX.S (a ++ b) := SX.S_cat a b
theorem c_dash : ("-" : Str) = SX.S [45] := by decide +kernel
theorem c_semi : ("; " : Str) = SX.S [59, 32] := by decide +kernel
theorem c_blank : (" " : Str) = SX.S [32] := by decide +kernel
theorem c_places : ("places " : Str) = SX.S [112, 108, 97, 99, 101, 115, 32] := by decide +kernel
theorem c_place : ("places" : Str) = SX.S [112, 108, 97, 99, 101, 115] := by decide +kernel
theorem c_fig : ("0123456789" : Str) = SX.S FIG := by decide +kernel
theorem sn_e (i : Int) : Str.ofString (toString i) = SX.S (dgs i) := sn_S i
theorem st_cat {a b : List Nat} {k : R → Prop} (hl : a.length + b.length ≤ 16777216) (h : k (.d (.str (SX.S (a ++ b))))) : opAdd (.str (SX.S a)) (.str (SX.S b)) k :=
  ⟨by rw [SX.S_len, SX.S_len]; exact hl, by rw [S_app]; exact h⟩
theorem cut_tail {a : D} {l : List D} : slD.cutL (a :: l) (some 1) none = l := by
  have h := cut_from (f := id) (ks := a :: l) (i := 1)
  rw [List.map_id] at h
  rw [show (some (1 : Int)) = some ((1 : Nat) : Int) from rfl, h]
  simp
theorem text_ok {n : Int} {ts : List (Int × Int)} (g : Good n ts) {X : XF} {Q : R → S → Prop} (h : ∀ fin, Q (.d (.str (SX.S (webL n ts)))) fin) : m__law_e_text [.d (webD n ts)] X Q := by
  have n0 := g.n0
  have n10 := g.n10
  have few := g.few
  have tn := good_tn g
  have l1 := dgs_len n0 n10
  unfold m__law_e_text b__law_e_text
  refine st_sem rfl ?_
  rw [show webD n ts = PyData.tuple [.int n, .tuple (ts.map pairD)] from rfl]
  array_get_dec
  refine ⟨sn_small n0 n10, ?_⟩
  array_get_dec
  rw [sn_e, c_places]
  refine st_cat (by show 7 + _ ≤ 16777216; omega) ?_
  array_get_dec
  rw [show ([112, 108, 97, 99, 101, 115, 32] ++ dgs n) = webL n [] from by show _ = headL n; rw [headL_eq]; simp]
  refine loop_list pairD (fun l s => ∃ done, ts = done ++ l ∧ s = [.d (.tuple [.int n, .tuple (ts.map pairD)]), .d (.str (SX.S (webL n done))), .no, .no]) ?_ ?_ ts _ ⟨[], rfl, rfl⟩
  · rintro s ⟨done, e, rfl⟩
    rw [List.append_nil] at e
    subst e
    array_get_dec
    exact h _
  · rintro p l s k ⟨done, e, rfl⟩ hk
    have t := tn p (by rw [e]; simp)
    have hd : Tn done := fun q hq => tn q (by rw [e]; simp [hq])
    have ll : done.length ≤ ts.length := by rw [e, List.length_append]; omega
    have wl := web_len n0 n10 hd
    have d1 := dgs_len t.1 t.2.1
    have d2 := dgs_len t.2.2.1 t.2.2.2
    rw [show pairD p = PyData.tuple [.int p.1, .int p.2] from rfl]
    array_get_dec
    rw [c_semi]
    refine st_cat (by show _ + 2 ≤ 16777216; omega) ?_
    array_get_dec
    refine ⟨sn_small t.1 t.2.1, ?_⟩
    array_get_dec
    rw [sn_e]
    refine st_cat (by rw [List.length_append]; show _ + 2 + _ ≤ 16777216; omega) ?_
    array_get_dec
    rw [c_dash]
    refine st_cat (by rw [List.length_append, List.length_append]; show _ + 2 + _ + 1 ≤ 16777216; omega) ?_
    array_get_dec
    refine ⟨sn_small t.2.2.1 t.2.2.2, ?_⟩
    array_get_dec
    rw [sn_e]
    refine st_cat (by rw [List.length_append, List.length_append, List.length_append]; show _ + 2 + _ + 1 + _ ≤ 16777216; omega) ?_
    array_get_dec
    refine hk _ ⟨done ++ [p], by rw [List.append_assoc]; exact e, ?_⟩
    have ew : webL n done ++ [59, 32] ++ dgs p.1 ++ [45] ++ dgs p.2 = webL n (done ++ [p]) := by
      rw [web_snoc, tieL_eq]
      simp only [List.append_assoc]
    rw [ew]
    rfl
theorem st_lcX {Xf : XF} {s : S} {Qf : R → S → Prop} {fa : FE} {it : FI} {fg : FG} {wp : List Nat} (h : it Xf s fun xs s1 => xs.length ≤ sizeLine ∧ wipeK s1 wp fun s2 => fComp (fun n s' => Xf n (Hs.wipeS s' wp)) fg wp fYes fa Qf xs [] s2) : fLcX it fg wp fa Xf s Qf := h
local macro_rules
  | `(tactic| sizeOf_list_dec) => `(tactic| first | with_reducible refine st_lcX ?_)
end Lk55
namespace Lk55
open PySem Hs
local macro_rules
  | `(tactic| sizeOf_list_dec) => `(tactic| first
    | with_reducible refine st_seq ?_ | with_reducible refine st_asg ?_ | with_reducible refine st_cons ?_ | with_reducible refine st_nil ?_ | with_reducible refine st_C ?_ | with_reducible refine st_op ?_
    | with_reducible refine st_var_d ?_ | with_reducible refine st_var_l ?_ | with_reducible refine st_var_ll ?_ | with_reducible refine st_var_dc ?_
    | with_reducible refine st_look_d ?_ | with_reducible refine st_look_top ?_ | with_reducible refine st_look_top_d ?_ | with_reducible refine st_look_own ?_ | with_reducible refine st_look_top_dc ?_ | with_reducible refine st_look_own_dc ?_ | with_reducible refine st_put_d ?_ | with_reducible refine st_put_own ?_ | with_reducible refine st_put_top_l ?_ | with_reducible refine st_put_top_ll ?_ | with_reducible refine st_put_top_dc ?_
    | ((with_reducible refine st_callF ?_ ?_); eq_refl) | with_reducible refine st_call ?_ | with_reducible refine st_putK_nil ?_ | with_reducible refine st_putK_t ?_ | with_reducible refine st_putK_f ?_ | with_reducible refine st_putK_td ?_ | with_reducible refine st_putK_to ?_ | with_reducible refine st_bind_nil ?_ | with_reducible refine st_bind_f ?_ | with_reducible refine st_bind_tt ?_ | with_reducible refine st_bind_td ?_ | with_reducible refine st_bind_to ?_
    | with_reducible refine st_frz_d ?_ | with_reducible refine st_frz_own ?_ | with_reducible refine st_frz_top ?_ | with_reducible refine st_frz_own_ll ?_ | with_reducible refine st_frz_own_dc ?_ | with_reducible refine st_frz_top_ll ?_ | with_reducible refine st_frz_top_dc ?_ | with_reducible refine st_frzAll_nil ?_ | with_reducible refine st_frzAll_cons ?_
    | with_reducible refine st_if ?_ | with_reducible refine st_B ?_ | with_reducible refine st_and ?_ | with_reducible refine st_or ?_ | with_reducible refine st_not ?_ | with_reducible refine st_yes ?_ | with_reducible refine st_isB ?_ | with_reducible refine st_t ?_ | with_reducible refine st_f ?_ | ((with_reducible refine st_iteT ?_ ?_); decide) | ((with_reducible refine st_iteF ?_ ?_); decide)
    | with_reducible refine st_nt ?_ | with_reducible refine st_nf ?_
    | with_reducible refine st_ret ?_ | with_reducible refine st_next ?_ | with_reducible refine st_retN ?_ | with_reducible refine st_drop ?_ | with_reducible refine st_break ?_ | with_reducible refine st_raise ?_
    | with_reducible refine st_out_d ?_ | with_reducible refine st_out_own ?_ | with_reducible refine st_out_top ?_
    | with_reducible refine st_tup ?_ | with_reducible refine st_lst ?_ | with_reducible refine st_un ?_ | with_reducible refine st_blt ?_ | with_reducible refine st_lookAll_nil ?_ | with_reducible refine st_lookAll_cons ?_
    | with_reducible refine st_unp ?_ | with_reducible refine st_par ?_ | with_reducible refine st_setIx ?_ | with_reducible refine st_onL ?_ | with_reducible refine st_for ?_ | with_reducible refine st_wipe_nil ?_ | with_reducible refine st_wipe_cons ?_ | with_reducible refine st_andV ?_ | with_reducible refine st_orV ?_ | with_reducible refine st_notV ?_ | with_reducible refine st_ifE ?_ | with_reducible refine st_chain ?_
    | with_reducible refine st_sl ?_ | with_reducible refine st_noPart ?_ | with_reducible refine st_part ?_ | with_reducible refine st_lc ?_ | with_reducible refine st_lm ?_
    | with_reducible refine st_seqI ?_ | with_reducible refine st_range1 ?_ | with_reducible refine st_range2 ?_ | with_reducible refine st_enum ?_ | with_reducible refine st_zip ?_
    | with_reducible refine st_nm ?_ | with_reducible refine st_tp ?_ | with_reducible refine st_tps_nil ?_ | with_reducible refine st_tps_cons ?_
    | ((with_reducible refine st_mod_i ?_ ?_); (first | decide | omega)) | ((with_reducible refine st_fdiv_i ?_ ?_); decide) 
    | with_reducible refine st_add_i ?_ | with_reducible refine st_sub_i ?_ | with_reducible refine st_neg_i ?_ | with_reducible refine st_eq_i ?_ | with_reducible refine st_ne_i ?_ | with_reducible refine st_eq_str ?_ | with_reducible refine st_ne_str ?_ | with_reducible refine st_eq_b ?_ | with_reducible refine st_ne_b ?_ | with_reducible refine st_lt_i ?_ | with_reducible refine st_le_i ?_ | with_reducible refine st_gt_i ?_ | with_reducible refine st_ge_i ?_
    | with_reducible refine st_is_n ?_ | with_reducible refine st_isNot_n ?_ | with_reducible refine st_is_b ?_ | with_reducible refine st_isNot_b ?_ | ((with_reducible refine st_ix_l (x := ?_) ?_ ?_); rotate_left; eq_refl) | ((with_reducible refine st_ix_t (x := ?_) ?_ ?_); rotate_left; eq_refl) | with_reducible refine st_len_l ?_ | with_reducible refine st_len_t ?_ | with_reducible refine st_len_lit ?_
    | with_reducible refine st_abs ?_ | with_reducible refine st_max2 ?_ | with_reducible refine st_min2 ?_ | with_reducible refine st_int_i ?_ | with_reducible refine st_int_b ?_ | with_reducible refine st_tuple_l ?_ | with_reducible refine st_tuple_t ?_ | with_reducible refine st_list_l ?_ | with_reducible refine st_list_t ?_ | ((with_reducible refine st_isT ?_ ?_); eq_refl) | ((with_reducible refine st_isTT ?_ ?_); eq_refl) | ((with_reducible refine st_isTF ?_ ?_); eq_refl) | ((with_reducible refine st_isNT ?_ ?_); eq_refl) | ((with_reducible refine st_isNF ?_ ?_); eq_refl)
    | with_reducible refine st_rg1 ?_ | with_reducible refine st_rg2 ?_ | with_reducible refine st_enumL ?_ | with_reducible refine st_zipS ?_ | with_reducible refine st_rev_l ?_ | with_reducible refine st_rev_t ?_
    | with_reducible refine st_ne_ll ?_ | with_reducible refine st_ne_lit ?_ | with_reducible refine st_in_pt ?_ | with_reducible refine st_in_pl ?_
    | with_reducible refine st_sl_l ?_ | with_reducible refine st_sl_t ?_
    | ((with_reducible refine st_iteLen ?_ ?_); eq_refl) | ((with_reducible refine st_iteNLen ?_ ?_); eq_refl) | with_reducible refine st_iteBB ?_ | ((with_reducible refine st_iteND ?_ ?_); omega) | ((with_reducible refine st_iteNF ?_ ?_); omega)
    | ((with_reducible refine st_iteT (decide_eq_true ?_) ?_); omega) | ((with_reducible refine st_iteF (decide_eq_false ?_) ?_); omega))
local macro_rules
  | `(tactic| sizeOf_list_dec) => `(tactic| with_reducible refine stepTo ?_)
local macro_rules
  | `(tactic| array_get_dec) => `(tactic| repeat sizeOf_list_dec)
local macro_rules
  | `(tactic| sizeOf_list_dec) => `(tactic| first | with_reducible refine st_ix2_l ?_ | with_reducible refine st_ix2_t ?_ | with_reducible refine st_ix2_s ?_ | with_reducible refine st_ix2_lit ?_ | with_reducible refine st_inK_l ?_ | with_reducible refine st_inK_t ?_ | with_reducible refine st_ninK_l ?_ | with_reducible refine st_ninK_t ?_ | with_reducible refine st_setD ?_ | with_reducible refine st_onDc ?_ | with_reducible refine st_dget2 ?_ | with_reducible refine st_emT ?_ | with_reducible refine st_emD ?_ | with_reducible refine st_disp1 ?_ | with_reducible refine st_disp1k ?_ | with_reducible refine st_range3 ?_ | with_reducible refine st_bor ?_ | with_reducible refine st_borT ?_ | with_reducible refine st_bindT_nil ?_ | with_reducible refine st_bindT_d ?_ | with_reducible refine st_bindT_o ?_ | with_reducible refine st_bindT_t ?_ | with_reducible refine st_toPs_nil ?_ | with_reducible refine st_toPs_d ?_ | with_reducible refine st_toPs_l ?_ | with_reducible refine st_toPs_dc ?_ | with_reducible refine st_tupO ?_ | with_reducible refine st_var_tp ?_ | with_reducible refine st_frz_own_tp ?_ | with_reducible refine st_frz_top_tp ?_ | with_reducible refine st_lmP ?_ | ((with_reducible refine st_onP ?_ ?_); eq_refl) | with_reducible refine st_flat_b ?_ | with_reducible refine st_flat_i ?_)
local macro_rules
  | `(tactic| sizeOf_list_dec) => `(tactic| with_reducible refine is_whole_ok fun _ => ?_)
local macro_rules
  | `(tactic| sizeOf_list_dec) => `(tactic| first | ((with_reducible refine st_isX (b := false) ?_ ?_); (decide +kernel)) | ((with_reducible refine st_isX (b := true) ?_ ?_); (decide +kernel)) | with_reducible refine st_try ?_)
local macro_rules
  | `(tactic| sizeOf_list_dec) => `(tactic| first | with_reducible refine st_in_il ?_ | with_reducible refine st_in_it ?_ | with_reducible refine st_notIn_il ?_ | with_reducible refine st_notIn_it ?_ | with_reducible refine st_ne_ll ?_)
local macro_rules
  | `(tactic| sizeOf_list_dec) => `(tactic| with_reducible refine st_emD ?_)
local macro_rules
  | `(tactic| sizeOf_list_dec) => `(tactic| first | with_reducible refine st_lcX ?_)
theorem S_eta (z : Str) : ∃ l, z = SX.S l := ⟨_, (SX.S_tl z).symm⟩
def figB (w : List Nat) : Bool := decide (1 ≤ w.length ∧ w.length ≤ 6) && (w.all (fun c => decide (c ∈ FIG)) && (decide (w = [48]) || decide (w.head? ≠ some 48)))
def valF (w : List Nat) : Int := (NumText.digitsVal w : Nat)
def numF (w : List Nat) : Option Int := if figB w = true then some (valF w) else none
def befF (c : Nat) (l : List Nat) : List Nat := l.takeWhile (fun x => decide (x ≠ c))
def aftF (c : Nat) (l : List Nat) : List Nat := (l.dropWhile (fun x => decide (x ≠ c))).tail
def tieF (l : List Nat) : Option (Int × Int) := if 45 ∈ l then (match numF (befF 45 l), numF (aftF 45 l) with | some x, some y => some (x, y) | _, _ => none) else none
def PL : List Nat := [112, 108, 97, 99, 101, 115, 32]
def headF (l : List Nat) : Option Int := if l.take 7 = PL then numF (l.drop 7) else none
def tiesF : List (List Nat) → Option (List (Int × Int))
  | [] => some []
  | p :: ps => match tieF p, tiesF ps with
    | some t, some ts => some (t :: ts)
    | _, _ => none
def sp2 (l : List Nat) : List (List Nat) := TL.spl [59, 32] 0 [] l
inductive Out where
  | bad | noweb | web (n : Int) (ts : List (Int × Int))
def outF2 (a : Option Int) (b : Option (List (Int × Int))) : Out := match a, b with
  | some n, some ts => if webB (webD n ts) = true then .web n ts else .noweb
  | _, _ => .bad
def readF (l : List Nat) : Out := match sp2 l with
  | [] => .bad
  | p :: ps => outF2 (headF p) (tiesF ps)
theorem cutF {c : Nat} {l : List Nat} (h : c ∈ l) : l = befF c l ++ (c :: aftF c l) ∧ c ∉ befF c l := by
  unfold befF aftF
  induction l with
  | nil => cases h
  | cons x l ih =>
    by_cases e : x = c
    · subst e
      simp
    · have h' : c ∈ l := (List.mem_cons.mp h).resolve_left (fun q => e q.symm)
      obtain ⟨i1, i2⟩ := ih h'
      rw [List.takeWhile_cons_of_pos (by simpa using e), List.dropWhile_cons_of_pos (by simpa using e)]
      refine ⟨by rw [List.cons_append, ← i1], fun q => ?_⟩
      rcases List.mem_cons.mp q with q | q
      · exact e q.symm
      · exact i2 q
theorem spl_no {c : Nat} {l : List Nat} (h : c ∉ l) : TL.spl [c] 0 [] l = [l] := SX.spl_join (c := c) (sep := []) (parts := [l]) (by simp) (fun p hp => by rw [List.mem_singleton.mp hp]; exact h)
theorem spl_yes {c : Nat} {l : List Nat} (h : c ∈ l) : TL.spl [c] 0 [] l = befF c l :: TL.spl [c] 0 [] (aftF c l) := by
  obtain ⟨h1, h2⟩ := cutF h
  have := SX.spl_free (sep := [c]) (p := befF c l) (aftF c l) (by simp) (SX.free_head h2)
  rw [← this]
  congr 1
theorem fig_no {c : Nat} {w : List Nat} (hc : c ∉ FIG) (h : c ∈ w) : numF w = none := by
  unfold numF figB
  rw [if_neg]
  intro q
  simp only [Bool.and_eq_true, List.all_eq_true, decide_eq_true_eq] at q
  exact hc (q.2.1 c h)
theorem spl_two {c : Nat} (hc : c ∉ FIG) {l : List Nat} : (c ∉ l ∧ TL.spl [c] 0 [] l = [l]) ∨ (c ∈ l ∧ c ∉ aftF c l ∧ TL.spl [c] 0 [] l = [befF c l, aftF c l]) ∨ (c ∈ l ∧ numF (aftF c l) = none ∧ ∃ a b m, TL.spl [c] 0 [] l = a :: b :: m ∧ m ≠ []) := by
  by_cases h : c ∈ l
  · by_cases h2 : c ∈ aftF c l
    · refine .inr (.inr ⟨h, fig_no hc h2, befF c l, befF c (aftF c l), _, by rw [spl_yes h, spl_yes h2], fun e => ?_⟩)
      by_cases h3 : c ∈ aftF c (aftF c l)
      · rw [spl_yes h3] at e; cases e
      · rw [spl_no h3] at e; cases e
    · exact .inr (.inl ⟨h, h2, by rw [spl_yes h, spl_no h2]⟩)
  · exact .inl ⟨h, spl_no h⟩
theorem headF_no {l : List Nat} (h : 32 ∉ l) : headF l = none := by
  unfold headF
  rw [if_neg]
  intro e
  refine h (List.mem_of_mem_take (i := 7) ?_)
  rw [e]
  decide
theorem headF_cut {l : List Nat} (h : 32 ∈ l) : headF l = if befF 32 l = [112, 108, 97, 99, 101, 115] then numF (aftF 32 l) else none := by
  obtain ⟨h1, h2⟩ := cutF h
  unfold headF
  by_cases e : befF 32 l = [112, 108, 97, 99, 101, 115]
  · rw [if_pos e]
    rw [e] at h1
    rw [if_pos (by rw [h1]; rfl)]
    congr 1
    conv => lhs; rw [h1]
    rfl
  · rw [if_neg e, if_neg]
    intro q
    refine e ?_
    have z := List.take_append_drop 7 l
    rw [q] at z
    unfold befF
    rw [← z]
    rfl
theorem spl_count {l : List Nat} : (sp2 l).length * 2 ≤ l.length + 2 ∧ 1 ≤ (sp2 l).length ∧ ∀ p ∈ sp2 l, p.length ≤ l.length := by
  have e : Txt.split (SX.S l) (SX.S [59, 32]) = (sp2 l).map SX.S := SX.split_S (by decide) (by decide)
  have p := PyProof.Rows.split_pos (SX.S l) (SX.S [59, 32])
  rw [e, List.length_map] at p
  refine ⟨?_, p, fun q hq => ?_⟩
  · have j := congrArg Str.length (PySem.StrLaws.join_split (SX.S l) (SX.S [59, 32]))
    rw [e] at j
    cases hs : sp2 l with
    | nil => rw [hs] at p; cases p
    | cons a r =>
      rw [hs, List.map_cons, PyProof.Rows.len_join_cons, SX.S_len, SX.S_len, List.length_map] at j
      rw [List.length_cons]
      have : r.length * ([59, 32] : List Nat).length = r.length * 2 := rfl
      omega
  · have := PyProof.Rows.part_short (x := SX.S l) (y := SX.S [59, 32]) (a := SX.S q) (by rw [e]; exact List.mem_map.mpr ⟨q, hq, rfl⟩)
    rwa [SX.S_len, SX.S_len] at this
theorem spl1_count {c : Nat} {l : List Nat} (h : c < 256) : (TL.spl [c] 0 [] l).length ≤ l.length + 2 := by
  have e : Txt.split (SX.S l) (SX.S [c]) = (TL.spl [c] 0 [] l).map SX.S := SX.split_S (by simp) (by simpa using h)
  have := PyProof.Rows.split_le (SX.S l) (SX.S [c])
  rw [e, List.length_map, SX.S_len] at this
  exact this
theorem befF_len {c : Nat} {l : List Nat} (h : c ∈ l) : (befF c l).length + (aftF c l).length + 1 = l.length := by
  have := congrArg List.length (cutF h).1
  rw [List.length_append, List.length_cons] at this
  omega
theorem figB_iff {w : List Nat} : figB w = true ↔ (1 ≤ w.length ∧ w.length ≤ 6) ∧ (∀ c ∈ w, c ∈ FIG) ∧ (w = [48] ∨ w.head? ≠ some 48) := by
  unfold figB
  simp only [Bool.and_eq_true, Bool.or_eq_true, decide_eq_true_eq, List.all_eq_true]
theorem fig_dig {c : Nat} (h : c ∈ FIG) : 48 ≤ c ∧ c ≤ 57 := by
  unfold FIG at h
  simp only [List.mem_cons, List.not_mem_nil, or_false] at h
  omega
theorem valF_read {w : List Nat} (h : figB w = true) : PySem.intText? (SX.S w) = some (valF w) := by
  obtain ⟨h1, h2, _⟩ := figB_iff.mp h
  exact SX.int_S (List.all_eq_true.mpr fun c hc => by have := fig_dig (h2 c hc); simp; omega) (fun e => by rw [e] at h1; exact absurd h1.1 (by decide)) (by omega)
theorem valF_nn {w : List Nat} : 0 ≤ valF w := Int.natCast_nonneg _
theorem numF_nn {w : List Nat} {n : Int} (h : numF w = some n) : 0 ≤ n := by
  unfold numF at h
  split at h
  · injection h with h; rw [← h]; exact valF_nn
  · cases h
theorem tieF_nn {l : List Nat} {t : Int × Int} (h : tieF l = some t) : 0 ≤ t.1 ∧ 0 ≤ t.2 := by
  unfold tieF at h
  split at h
  · split at h
    · rename_i x y e1 e2
      injection h with h
      rw [← h]
      exact ⟨numF_nn e1, numF_nn e2⟩
    · cases h
  · cases h
theorem tiesF_nn : ∀ {ps : List (List Nat)} {ts : List (Int × Int)}, tiesF ps = some ts → ts.length = ps.length ∧ ∀ t ∈ ts, 0 ≤ t.1 ∧ 0 ≤ t.2
  | [], ts, h => by
    injection h with h
    rw [← h]
    exact ⟨rfl, fun t ht => nomatch ht⟩
  | p :: ps, ts, h => by
    unfold tiesF at h
    split at h
    · rename_i t ts' e1 e2
      injection h with h
      rw [← h]
      obtain ⟨h1, h2⟩ := tiesF_nn e2
      refine ⟨by rw [List.length_cons, List.length_cons, h1], fun q hq => ?_⟩
      rcases List.mem_cons.mp hq with rfl | hq
      · exact tieF_nn e1
      · exact h2 q hq
    · cases h
theorem figB_f {w : List Nat} (h : ¬ ((1 ≤ w.length ∧ w.length ≤ 6) ∧ (∀ c ∈ w, c ∈ FIG) ∧ (w = [48] ∨ w.head? ≠ some 48))) : figB w = false := by
  cases q : figB w with
  | false => rfl
  | true => exact absurd (figB_iff.mp q) h
theorem S_len' (l : List Nat) : (SX.S l).cps.size = l.length := SX.S_len l
theorem c_zero : ("0" : Str) = SX.S [48] := by decide +kernel
theorem is_figures_x {w : List Nat} (hl : w.length ≤ 10000) {X : XF} {Q : R → S → Prop} (h : ∀ fin, Q (.d (.bool (figB w))) fin) : m_is_figures [.d (.str (SX.S w))] X Q := by
  unfold m_is_figures b_is_figures
  refine st_sem rfl ?_
  by_cases h1 : 1 ≤ w.length
  · by_cases h2 : w.length ≤ 6
    · array_get_dec
      refine ⟨by rw [SX.S_len]; show _ ≤ 16777216; omega, ?_⟩
      rw [SX.S_len]
      array_get_dec
      unfold iStrD
      array_get_dec
      refine ⟨by rw [signsD_len, S_len']; show _ ≤ 16777216; omega, ?_⟩
      array_get_dec
      unfold signsD
      refine comp_list (fun c => PyData.str ⟨#[c]⟩) (fun c => .bool (decide (c ∈ FIG))) (SX.S w).cps.toList (fun c hc kT hkT => ?_) ?_
      · array_get_dec
        rw [c_fig]
        refine st_in_sign ?_
        array_get_dec
        exact hkT
      array_get_dec
      refine st_all_map ?_
      rw [show (SX.S w).cps.toList = w from rfl]
      by_cases hf : ∀ c ∈ w, c ∈ FIG
      · rw [List.all_eq_true.mpr fun c hc => decide_eq_true (hf c hc)]
        array_get_dec
        rw [c_zero]
        by_cases e0 : w = [48]
        · rw [figB_iff.mpr ⟨⟨h1, h2⟩, hf, .inl e0⟩] at h
          rw [show decide (SX.S w = SX.S [48]) = true from decide_eq_true (by rw [e0])]
          array_get_dec
          exact h _
        · rw [show decide (SX.S w = SX.S [48]) = false from decide_eq_false fun q => e0 (SX.S_inj q)]
          array_get_dec
          refine ⟨by rw [SX.S_len]; show _ ≤ 16777216; omega, ?_⟩
          obtain ⟨c0, r, e⟩ : ∃ c0 r, w = c0 :: r := by
            cases w with
            | nil => exact absurd h1 (by decide)
            | cons c0 r => exact ⟨c0, r, rfl⟩
          rw [show L2.atI (SX.S w).cps.toList 0 = some c0 from L2.atI_nat (j := 0) (by rw [show (SX.S w).cps.toList = w from rfl, e]; rfl)]
          array_get_dec
          rw [show ((⟨#[c0]⟩ : Str)) = SX.S [c0] from rfl]
          have ef : figB w = !decide (SX.S [c0] = SX.S [48]) := by
            by_cases q : c0 = 48
            · rw [decide_eq_true (by rw [q])]
              exact figB_f fun z => z.2.2.elim e0 fun y => y (by rw [e, q]; rfl)
            · rw [decide_eq_false fun z => q (by have := SX.S_inj z; simpa using this)]
              exact figB_iff.mpr ⟨⟨h1, h2⟩, hf, .inr (by rw [e]; simpa using q)⟩
          rw [ef] at h
          exact h _
      · rw [figB_f fun z => hf z.2.1] at h
        rw [show (w.all fun c => decide (c ∈ FIG)) = false from by
          cases q : w.all fun c => decide (c ∈ FIG) with
          | false => rfl
          | true => exact absurd (fun c hc => of_decide_eq_true (List.all_eq_true.mp q c hc)) hf]
        array_get_dec
        exact h _
    · rw [figB_f fun z => h2 z.1.2] at h
      array_get_dec
      refine ⟨by rw [SX.S_len]; show _ ≤ 16777216; omega, ?_⟩
      rw [SX.S_len]
      array_get_dec
      exact h _
  · rw [figB_f fun z => h1 z.1.1] at h
    array_get_dec
    refine ⟨by rw [SX.S_len]; show _ ≤ 16777216; omega, ?_⟩
    rw [SX.S_len]
    array_get_dec
    exact h _
theorem read_number_x {w : List Nat} (hl : w.length ≤ 10000) {X : XF} {Q : R → S → Prop} (hn : numF w = none → ∀ fin, X "NoText" fin) (hs : ∀ n, numF w = some n → ∀ fin, Q (.d (.int n)) fin) : m_read_number [.d (.str (SX.S w))] X Q := by
  unfold m_read_number b_read_number
  refine st_sem rfl ?_
  array_get_dec
  refine is_figures_x hl fun fin => ?_
  by_cases f : figB w = true
  · rw [f]
    array_get_dec
    refine st_int_s (valF_read f) (by rw [SX.S_len]; have := (figB_iff.mp f).1.2; omega) ?_
    array_get_dec
    exact hs _ (by unfold numF; rw [if_pos f]) _
  · rw [show figB w = false by simpa using f]
    array_get_dec
    exact hn (by unfold numF; rw [if_neg f]) _
theorem read_tie_x {l : List Nat} (hl : l.length ≤ 10000) {X : XF} {Q : R → S → Prop} (hn : tieF l = none → ∀ fin, X "NoText" fin) (hs : ∀ t, tieF l = some t → ∀ fin, Q (.d (pairD t)) fin) : m_read_tie [.d (.str (SX.S l))] X Q := by
  have cnt := spl1_count (c := 45) (l := l) (by decide)
  unfold m_read_tie b_read_tie
  refine st_sem rfl ?_
  array_get_dec
  refine st_txt ?_
  array_get_dec
  refine ⟨⟨_, rfl⟩, ?_⟩
  array_get_dec
  rw [c_dash]
  have es : Txt.split (SX.S l) (SX.S [45]) = (TL.spl [45] 0 [] l).map SX.S := SX.split_S (by decide) (by decide)
  refine st_split (by rw [SX.S_len]; rfl) (by rw [SX.S_len]; show _ ≤ 16777216; omega) (by rw [es, List.length_map]; show _ ≤ 16777216; omega) ?_
  rw [es]
  rcases spl_two (c := 45) (by decide) (l := l) with ⟨h1, e⟩ | ⟨h1, h2, e⟩ | ⟨h1, h2, a, b, m, e, me⟩
  · rw [e]
    array_get_dec
    exact hn (by unfold tieF; rw [if_neg h1]) _
  · have bl := befF_len h1
    rw [e]
    array_get_dec
    have et : tieF l = match numF (befF 45 l), numF (aftF 45 l) with | some x, some y => some (x, y) | _, _ => none := by unfold tieF; rw [if_pos h1]
    refine read_number_x (by omega) (fun q fin => ?_) (fun x q fin => ?_)
    · exact hn (by rw [et, q]) _
    array_get_dec
    refine read_number_x (by omega) (fun q2 fin => ?_) (fun y q2 fin => ?_)
    · exact hn (by rw [et, q, q2]) _
    array_get_dec
    exact hs (x, y) (by rw [et, q, q2]) _
  · rw [e]
    cases m with
    | nil => exact absurd rfl me
    | cons c m =>
      have len : (a :: b :: c :: m).length ≤ l.length + 2 := by rw [← e]; exact cnt
      array_get_dec
      rw [show decide (((List.map PyData.str (List.map SX.S (a :: b :: c :: m))).length : Int) = 2) = false from decide_eq_false (by simp; omega)]
      array_get_dec
      exact hn (by unfold tieF; rw [if_pos h1, h2]; cases numF (befF 45 l) <;> rfl) _
section
variable {Xf : XF} {Q : R → S → Prop} {x : D} {as bs : List D}
theorem comp_ties : ∀ (ps : List (List Nat)) (acc : List D), (∀ p ∈ ps, p.length ≤ 10000) → (tiesF ps = none → ∀ s', Xf "NoText" s') → (∀ ts, tiesF ps = some ts → Q (.own (.l (acc ++ ts.map pairD))) [.d x, .l as, .l bs, .no, .no]) →
    fComp Xf (gNm 4) [4] fYes (fCall m_read_tie [false] (fCons (fVar 4) fNil)) Q (ps.map fun p => .str (SX.S p)) acc [.d x, .l as, .l bs, .no, .no]
  | [], acc, _, _, hs => by
    have := hs [] rfl
    rw [List.map_nil, List.append_nil] at this
    exact this
  | p :: ps, acc, hl, hn, hs => by
    show gNm 4 (.str (SX.S p)) [.d x, .l as, .l bs, .no, .no] fun s1 => fCall m_read_tie [false] (fCons (fVar 4) fNil) Xf s1 fun r s3 => frz r s3 fun d s4 => fComp Xf (gNm 4) [4] fYes (fCall m_read_tie [false] (fCons (fVar 4) fNil)) Q (ps.map fun p => .str (SX.S p)) (acc ++ [d]) (wipeS s4 [4])
    refine st_nm ?_
    array_get_dec
    refine read_tie_x (hl p List.mem_cons_self) (fun q fin => ?_) (fun t q fin => ?_)
    · exact hn (by unfold tiesF; rw [q]) _
    array_get_dec
    refine comp_ties ps (acc ++ [pairD t]) (fun q hq => hl q (List.mem_cons_of_mem _ hq)) (fun q2 s' => ?_) (fun ts q2 => ?_)
    · exact hn (by unfold tiesF; rw [q, q2]) _
    · have := hs (t :: ts) (by unfold tiesF; rw [q, q2])
      rw [List.append_assoc]
      exact this
end
theorem okB_pairs (ts : List (Int × Int)) : ∀ d ∈ ts.map pairD, okB 2 d = true := fun d hd => by
  obtain ⟨p, _, rfl⟩ := List.mem_map.mp hd
  rfl
theorem okB_webT {n : Int} {ts : List (Int × Int)} (h : ts.length ≤ 1000) : okB 4 (webD n ts) = true := by
  show (!isLit (webD n ts) && (decide (2 ≤ 1000) && ([PyData.int n, .tuple (ts.map pairD)].all (okB 3)))) = true
  have h2 : okB 3 (.tuple (ts.map pairD)) = true := by
    show (!isLit (.tuple (ts.map pairD)) && (decide ((ts.map pairD).length ≤ 1000) && (ts.map pairD).all (okB 2))) = true
    rw [decide_eq_true (by rw [List.length_map]; exact h), List.all_eq_true.mpr (okB_pairs ts)]
    rfl
  simp only [List.all_cons, List.all_nil, h2]
  rfl
theorem read_web_x {l : List Nat} (hl : l.length ≤ 1900) {X : XF} {Q : R → S → Prop} (hb : readF l = .bad → ∀ fin, X "NoText" fin) (hw : readF l = .noweb → ∀ fin, X "NoWeb" fin) (hs : ∀ n ts, readF l = .web n ts → ∀ fin, Q (.d (webD n ts)) fin) : m_read_web [.d (.str (SX.S l))] X Q := by
  obtain ⟨cn, c1, cl⟩ := spl_count (l := l)
  unfold m_read_web b_read_web
  refine st_sem rfl ?_
  array_get_dec
  refine st_txt ?_
  array_get_dec
  refine ⟨⟨_, rfl⟩, ?_⟩
  array_get_dec
  rw [c_semi]
  have es : Txt.split (SX.S l) (SX.S [59, 32]) = (sp2 l).map SX.S := SX.split_S (by decide) (by decide)
  refine st_split (by rw [SX.S_len]; rfl) (by rw [SX.S_len]; show _ ≤ 16777216; omega) (by rw [es, List.length_map]; show _ ≤ 16777216; omega) ?_
  rw [es]
  have er : ∀ p ps, sp2 l = p :: ps → readF l = outF2 (headF p) (tiesF ps) := fun p ps e => by unfold readF; rw [e]
  cases e0 : sp2 l with
  | nil => rw [e0] at c1; exact absurd c1 (by decide)
  | cons p ps =>
    have er := er p ps e0
    have pl : p.length ≤ 1900 := Nat.le_trans (cl p (by rw [e0]; exact List.mem_cons_self)) hl
    have psl : ∀ q ∈ ps, q.length ≤ 10000 := fun q hq => Nat.le_trans (cl q (by rw [e0]; exact List.mem_cons_of_mem _ hq)) (by omega)
    have few : ps.length ≤ 1000 := by rw [e0, List.length_cons] at cn; omega
    have bad1 : headF p = none → readF l = .bad := fun q => by rw [er, q]; rfl
    have bad2 : tiesF ps = none → readF l = .bad := fun q => by rw [er, q]; cases headF p <;> rfl
    clear es cl cn c1
    rw [List.map_cons, List.map_cons]
    array_get_dec
    refine st_txt ?_
    array_get_dec
    refine st_ix_l (x := .str (SX.S p)) (L2.atI_nat (j := 0) rfl) ?_
    array_get_dec
    refine ⟨⟨_, rfl⟩, ?_⟩
    array_get_dec
    rw [c_blank]
    have cnt := spl1_count (c := 32) (l := p) (by decide)
    have es : Txt.split (SX.S p) (SX.S [32]) = (TL.spl [32] 0 [] p).map SX.S := SX.split_S (by decide) (by decide)
    refine st_split (by rw [SX.S_len]; rfl) (by rw [SX.S_len]; show _ ≤ 16777216; omega) (by rw [es, List.length_map]; show _ ≤ 16777216; omega) ?_
    rw [es]
    rcases spl_two (c := 32) (by decide) (l := p) with ⟨h1, e⟩ | ⟨h1, h2, e⟩ | ⟨h1, h2, a, b, m, e, me⟩
    · rw [e]
      array_get_dec
      exact hb (bad1 (headF_no h1)) _
    · have bl := befF_len h1
      have hh := headF_cut h1
      rw [e]
      array_get_dec
      rw [c_place]
      by_cases ep : befF 32 p = [112, 108, 97, 99, 101, 115]
      · rw [if_pos ep] at hh
        rw [show decide (SX.S (befF 32 p) = SX.S [112, 108, 97, 99, 101, 115]) = true from decide_eq_true (by rw [ep])]
        array_get_dec
        refine read_number_x (by omega) (fun q fin => ?_) (fun n q fin => ?_)
        · exact hb (bad1 (by rw [hh, q])) _
        array_get_dec
        refine ⟨by rw [cut_tail, List.length_map, List.length_map]; show _ ≤ 16777216; omega, ?_⟩
        array_get_dec
        rw [cut_tail, List.map_map]
        refine comp_ties ps [] psl (fun q2 s' => hb (bad2 q2) _) (fun ts q2 => ?_)
        have tn := (tiesF_nn q2).1
        rw [List.nil_append]
        array_get_dec
        rw [show PyData.tuple [PyData.int n, PyData.tuple (ts.map pairD)] = webD n ts from rfl]
        have out : readF l = if webB (webD n ts) = true then .web n ts else .noweb := by rw [er, hh, q, q2]; rfl
        refine is_web_gen (okB_webT (by omega)) fun fin => ?_
        cases w : webB (webD n ts) with
        | true =>
          array_get_dec
          exact hs n ts (by rw [out, w]; rfl) _
        | false =>
          array_get_dec
          exact hw (by rw [out, w]; rfl) _
      · rw [if_neg ep] at hh
        rw [show decide (SX.S (befF 32 p) = SX.S [112, 108, 97, 99, 101, 115]) = false from decide_eq_false fun z => ep (SX.S_inj z)]
        array_get_dec
        exact hb (bad1 hh) _
    · rw [e]
      have hh := headF_cut h1
      cases m with
      | nil => exact absurd rfl me
      | cons c m =>
        have len : (a :: b :: c :: m).length ≤ p.length + 2 := by rw [← e]; exact cnt
        array_get_dec
        rw [show decide (((List.map PyData.str (List.map SX.S (a :: b :: c :: m))).length : Int) = 2) = false from decide_eq_false (by simp; omega)]
        array_get_dec
        exact hb (bad1 (by rw [hh, h2]; split <;> rfl)) _
theorem e_number_x {w : List Nat} (hl : w.length ≤ 10000) {X : XF} {Q : R → S → Prop} (hn : numF w = none → ∀ fin, Q (.d .none) fin) (hs : ∀ n, numF w = some n → ∀ fin, Q (.d (.int n)) fin) : m__law_e_number [.d (.str (SX.S w))] X Q := by
  have bad : figB w = false → numF w = none := fun q => by unfold numF; rw [q]; rfl
  unfold m__law_e_number b__law_e_number
  refine st_sem rfl ?_
  by_cases h1 : 1 ≤ w.length
  · by_cases h2 : w.length ≤ 6
    · array_get_dec
      refine ⟨by rw [SX.S_len]; show _ ≤ 16777216; omega, ?_⟩
      rw [SX.S_len]
      array_get_dec
      refine ⟨by rw [SX.S_len]; show _ ≤ 16777216; omega, ?_⟩
      rw [SX.S_len]
      array_get_dec
      unfold iStrD
      array_get_dec
      refine ⟨by rw [signsD_len, S_len']; show _ ≤ 16777216; omega, ?_⟩
      array_get_dec
      unfold signsD
      refine comp_list (fun c => PyData.str ⟨#[c]⟩) (fun c => .bool (decide (c ∈ FIG))) (SX.S w).cps.toList (fun c hc kT hkT => ?_) ?_
      · array_get_dec
        rw [c_fig]
        refine st_in_sign ?_
        array_get_dec
        exact hkT
      array_get_dec
      refine st_all_map ?_
      rw [show (SX.S w).cps.toList = w from rfl]
      by_cases hf : ∀ c ∈ w, c ∈ FIG
      · rw [List.all_eq_true.mpr fun c hc => decide_eq_true (hf c hc)]
        array_get_dec
        refine ⟨by rw [SX.S_len]; show _ ≤ 16777216; omega, ?_⟩
        obtain ⟨c0, r, e⟩ : ∃ c0 r, w = c0 :: r := by
          cases w with
          | nil => exact absurd h1 (by decide)
          | cons c0 r => exact ⟨c0, r, rfl⟩
        rw [show L2.atI (SX.S w).cps.toList 0 = some c0 from L2.atI_nat (j := 0) (by rw [show (SX.S w).cps.toList = w from rfl, e]; rfl)]
        array_get_dec
        rw [show ((⟨#[c0]⟩ : Str)) = SX.S [c0] from rfl, c_zero]
        have ok : (w = [48] ∨ w.head? ≠ some 48) → ∀ fin, Q (.d (.int (valF w))) fin := fun q => hs _ (by unfold numF; rw [if_pos (figB_iff.mpr ⟨⟨h1, h2⟩, hf, q⟩)])
        by_cases q : c0 = 48
        · rw [decide_eq_true (by rw [q])]
          array_get_dec
          by_cases e0 : w = [48]
          · rw [show decide (SX.S w = SX.S [48]) = true from decide_eq_true (by rw [e0])]
            array_get_dec
            refine st_int_s (valF_read (figB_iff.mpr ⟨⟨h1, h2⟩, hf, .inl e0⟩)) (by rw [SX.S_len]; omega) ?_
            array_get_dec
            exact ok (.inl e0) _
          · rw [show decide (SX.S w = SX.S [48]) = false from decide_eq_false fun q => e0 (SX.S_inj q)]
            array_get_dec
            exact hn (bad (figB_f fun z => z.2.2.elim e0 fun y => y (by rw [e, q]; rfl))) _
        · rw [decide_eq_false fun z => q (by have := SX.S_inj z; simpa using this)]
          array_get_dec
          have h48 : w.head? ≠ some 48 := by rw [e]; simpa using q
          refine st_int_s (valF_read (figB_iff.mpr ⟨⟨h1, h2⟩, hf, .inr h48⟩)) (by rw [SX.S_len]; omega) ?_
          array_get_dec
          exact ok (.inr h48) _
      · rw [show (w.all fun c => decide (c ∈ FIG)) = false from by
          cases q : w.all fun c => decide (c ∈ FIG) with
          | false => rfl
          | true => exact absurd (fun c hc => of_decide_eq_true (List.all_eq_true.mp q c hc)) hf]
        array_get_dec
        exact hn (bad (figB_f fun z => hf z.2.1)) _
    · array_get_dec
      refine ⟨by rw [SX.S_len]; show _ ≤ 16777216; omega, ?_⟩
      rw [SX.S_len]
      array_get_dec
      refine ⟨by rw [SX.S_len]; show _ ≤ 16777216; omega, ?_⟩
      rw [SX.S_len]
      array_get_dec
      exact hn (bad (figB_f fun z => h2 z.1.2)) _
  · array_get_dec
    refine ⟨by rw [SX.S_len]; show _ ≤ 16777216; omega, ?_⟩
    rw [SX.S_len]
    array_get_dec
    exact hn (bad (figB_f fun z => h1 z.1.1)) _
theorem S_inj {a b : List Nat} (h : SX.S a = SX.S b) : a = b := SX.S_inj h
/-- one sign looked for -/
theorem at_one {l : List Nat} {c : Nat} {i : Nat} : StrLaws.At (SX.S l) (SX.S [c]) (SX.S l).length i ↔ l[i]? = some c := by
  rw [← PyProof.Rows.atS_iff]
  unfold PyProof.Rows.atS
  rw [SX.S_len, SX.S_len]
  have e1 : ((i : Int)).toNat = i := by omega
  have e2 : ((i : Int) + (([c] : List Nat).length : Int) - (i : Int)).toNat = 1 := by
    rw [List.length_singleton]; omega
  rw [e1, e2, Bool.and_eq_true]
  have e3 : (⟨((SX.S l).cps.toList.drop i |>.take 1).toArray⟩ : Str) = SX.S ((l.drop i).take 1) := by simp [SX.S]
  rw [e3]
  constructor
  · rintro ⟨h1, h2⟩
    have h2 := S_inj (eq_of_beq h2)
    rw [List.take_one, List.head?_drop] at h2
    cases e : l[i]? with
    | none => rw [e] at h2; cases h2
    | some d =>
      rw [e] at h2
      injection h2 with h3
      rw [h3]
  · intro h
    have hi := (List.getElem?_eq_some_iff.mp h).1
    refine ⟨?_, ?_⟩
    · rw [List.length_singleton, Bool.not_eq_true', decide_eq_false_iff_not]
      omega
    · rw [List.take_one, List.head?_drop, h]
      exact beq_self_eq_true _
theorem find_no {l : List Nat} {c : Nat} (h : c ∉ l) : Txt.find (SX.S l) (SX.S [c]) = -1 := by
  rcases PyProof.Rows.find_whole (SX.S l) (SX.S [c]) with ⟨e, _⟩ | ⟨i, _, hi, _⟩
  · exact e
  · exact absurd (List.mem_of_getElem? (at_one.mp hi)) h
theorem find_at {a b : List Nat} {c : Nat} (h : c ∉ a) : Txt.find (SX.S (a ++ ([c] ++ b))) (SX.S [c]) = (a.length : Int) := by
  have yes : (a ++ ([c] ++ b))[a.length]? = some c := by simp
  rcases PyProof.Rows.find_whole (SX.S (a ++ ([c] ++ b))) (SX.S [c]) with ⟨_, hn⟩ | ⟨i, e, hi, hn⟩
  · exact absurd (at_one.mpr yes) (hn a.length)
  · rw [e]
    have hi := at_one.mp hi
    by_cases c1 : i < a.length
    · rw [List.getElem?_append_left c1] at hi
      exact absurd (List.mem_of_getElem? hi) h
    · by_cases c2 : a.length < i
      · exact absurd (at_one.mpr yes) (hn a.length c2)
      · omega
theorem find_cut {c : Nat} {a : List Nat} (h : c ∈ a) : Txt.find (SX.S a) (SX.S [c]) = ((befF c a).length : Int) := by
  obtain ⟨ea, hb⟩ := cutF h
  have f := find_at (b := aftF c a) hb
  have z : befF c a ++ ([c] ++ aftF c a) = a := ea.symm
  rw [z] at f
  exact f
theorem to_cut {c : Nat} {a : List Nat} (h : c ∈ a) : Txt.slice (SX.S a) none (some ((befF c a).length : Int)) = SX.S (befF c a) := by
  obtain ⟨ea, hb⟩ := cutF h
  have f := SX.to_app (befF c a) (c :: aftF c a) (i := ((befF c a).length : Int)) rfl
  rw [← ea] at f
  exact f
theorem from_cut {c : Nat} {a : List Nat} (h : c ∈ a) : Txt.slice (SX.S a) (some ((befF c a).length + 1 : Int)) none = SX.S (aftF c a) := by
  obtain ⟨ea, hb⟩ := cutF h
  have f := SX.from_app (befF c a ++ [c]) (aftF c a) (i := ((befF c a).length + 1 : Int)) (by rw [List.length_append]; rfl)
  have z : (befF c a ++ [c]) ++ aftF c a = a := by rw [List.append_assoc]; exact ea.symm
  rw [z] at f
  exact f
def optD : Option Int → D
  | none => .none
  | some n => .int n
def tD (p : List Nat) : D := .tuple [optD (numF (befF 45 p)), optD (numF (aftF 45 p))]
def dueD : Out → D
  | .bad => .str "text"
  | .noweb => .str "web"
  | .web n ts => webD n ts
theorem e_number_o {w : List Nat} (hl : w.length ≤ 10000) {X : XF} {Q : R → S → Prop} (h : ∀ fin, Q (.d (optD (numF w))) fin) : m__law_e_number [.d (.str (SX.S w))] X Q :=
  e_number_x hl (fun q fin => by have := h fin; rw [q] at this; exact this) (fun n q fin => by have := h fin; rw [q] at this; exact this)
theorem tiesF_cases : ∀ ps : List (List Nat), ((ps.any fun p => decide (tieF p = none)) = true ∧ tiesF ps = none) ∨ ((ps.any fun p => decide (tieF p = none)) = false ∧ ∃ ts, tiesF ps = some ts ∧ ((∀ p ∈ ps, 45 ∈ p) → ps.map tD = ts.map pairD))
  | [] => .inr ⟨rfl, [], rfl, fun _ => rfl⟩
  | p :: ps => by
    rw [List.any_cons]
    cases e : tieF p with
    | none => exact .inl ⟨by simp, by unfold tiesF; rw [e]⟩
    | some t =>
      rcases tiesF_cases ps with ⟨h1, h2⟩ | ⟨h1, ts, h2, h3⟩
      · exact .inl ⟨by rw [h1]; simp, by unfold tiesF; rw [e, h2]⟩
      · refine .inr ⟨by rw [h1]; simp, t :: ts, by unfold tiesF; rw [e, h2], fun hp => ?_⟩
        rw [List.map_cons, List.map_cons, h3 fun q hq => hp q (List.mem_cons_of_mem _ hq)]
        congr 1
        have h45 := hp p List.mem_cons_self
        unfold tieF at e
        rw [if_pos h45] at e
        unfold tD
        split at e
        · rename_i x y e1 e2
          injection e with e
          rw [e1, e2, ← e]
          rfl
        · cases e
theorem tiesF_none {ps : List (List Nat)} {p : List Nat} (hp : p ∈ ps) (h : 45 ∉ p) : tiesF ps = none := by
  rcases tiesF_cases ps with ⟨_, h2⟩ | ⟨h1, _⟩
  · exact h2
  · have : (ps.any fun p => decide (tieF p = none)) = true := List.any_eq_true.mpr ⟨p, hp, decide_eq_true (by unfold tieF; rw [if_neg h])⟩
    rw [h1] at this; cases this
theorem pairsOf_pairs : ∀ ts : List (Int × Int), pairsOf (ts.map pairD) = some ts
  | [] => rfl
  | t :: ts => by
    show (match pairOf (pairD t), pairsOf (ts.map pairD) with | some p, some ps => some (p :: ps) | _, _ => none) = _
    rw [pairsOf_pairs ts]
    rfl
theorem webB_eq {n : Int} {ts : List (Int × Int)} (n0 : 0 ≤ n) (t0 : ∀ t ∈ ts, 0 ≤ t.1 ∧ 0 ≤ t.2) : webB (webD n ts) = (decide (n ≤ 10) && (!(ts.any fun t => decide (t.2 ≤ t.1) || decide (n ≤ t.2)) && adjP ts)) := by
  show (decide (0 ≤ n ∧ n < 11) && ((ts.map pairD).all (tieO n) && match pairsOf (ts.map pairD) with | some ps => adjP ps | none => true)) = _
  rw [pairsOf_pairs]
  have e1 : decide (0 ≤ n ∧ n < 11) = decide (n ≤ 10) := by
    rw [Bool.eq_iff_iff, decide_eq_true_iff, decide_eq_true_iff]; omega
  have e2 : (ts.map pairD).all (tieO n) = !(ts.any fun t => decide (t.2 ≤ t.1) || decide (n ≤ t.2)) := by
    rw [Bool.eq_iff_iff, List.all_map, List.all_eq_true, Bool.not_eq_true', Bool.eq_false_iff]
    constructor
    · intro h q
      obtain ⟨t, ht, q⟩ := List.any_eq_true.mp q
      have z : decide ((0 ≤ t.1 ∧ t.1 < n) ∧ (0 ≤ t.2 ∧ t.2 < n) ∧ t.1 < t.2) = true := h t ht
      have z := of_decide_eq_true z
      simp only [Bool.or_eq_true, decide_eq_true_eq] at q
      omega
    · intro h t ht
      have q : ¬ ((decide (t.2 ≤ t.1) || decide (n ≤ t.2)) = true) := fun z => h (List.any_eq_true.mpr ⟨t, ht, z⟩)
      simp only [Bool.or_eq_true, decide_eq_true_eq] at q
      have := t0 t ht
      show decide ((0 ≤ t.1 ∧ t.1 < n) ∧ (0 ≤ t.2 ∧ t.2 < n) ∧ t.1 < t.2) = true
      exact decide_eq_true (by omega)
  rw [e1, e2]
theorem any_not_adj (ts : List (Int × Int)) : ((rangeI (ts.length - 1)).any fun k => !ltPr (ts.getD k.toNat (0, 0)) (ts.getD (k.toNat + 1) (0, 0))) = !adjP ts := by
  rw [← adj_range ts, List.not_all_eq_any_not]
theorem st_inT {d e : D} {b : Bool} {k : R → Prop} (key : cIn d e (fun r => r = .d (.bool b))) (h : k (.d (.bool b))) : cIn d e k := by
  unfold cIn at key ⊢
  split at key
  · obtain ⟨k1, k2, k3⟩ := key
    exact ⟨k1, k2, by rw [k3]; exact h⟩
  · obtain ⟨k1, k2, k3⟩ := key
    exact ⟨k1, k2, by rw [k3]; exact h⟩
  · exact key.elim
theorem e_due_x {l : List Nat} (hl : l.length ≤ 1900) {X : XF} {Q : R → S → Prop} (h : ∀ fin, Q (.d (dueD (readF l))) fin) : m__law_e_due [.d (.str (SX.S l))] X Q := by
  obtain ⟨cn, c1, cl⟩ := spl_count (l := l)
  have es : Txt.split (SX.S l) (SX.S [59, 32]) = (sp2 l).map SX.S := SX.split_S (by decide) (by decide)
  have er : ∀ p ps, sp2 l = p :: ps → readF l = outF2 (headF p) (tiesF ps) := fun p ps e => by unfold readF; rw [e]
  cases e0 : sp2 l with
  | nil => rw [e0] at c1; exact absurd c1 (by decide)
  | cons p ps =>
    have er := er p ps e0
    have pl : p.length ≤ 1900 := Nat.le_trans (cl p (by rw [e0]; exact List.mem_cons_self)) hl
    have psl : ∀ q ∈ ps, q.length ≤ 10000 := fun q hq => Nat.le_trans (cl q (by rw [e0]; exact List.mem_cons_of_mem _ hq)) (by omega)
    have few : ps.length ≤ 1000 := by rw [e0, List.length_cons] at cn; omega
    have bad1 : headF p = none → ∀ fin, Q (.d (.str "text")) fin := fun q fin => by have := h fin; rw [er, q] at this; exact this
    have bad2 : tiesF ps = none → ∀ fin, Q (.d (.str "text")) fin := fun q fin => by have := h fin; rw [er, q] at this; cases e : headF p <;> rw [e] at this <;> exact this
    unfold m__law_e_due b__law_e_due
    refine st_sem rfl ?_
    refine st_join (fun s => s = [.d (.str (SX.S l)), .l (.str (SX.S p) :: ps.map fun q => .str (SX.S q)), .no, .no, .no, .no, .no]) ?_ (fun k hk => by
      array_get_dec
      refine st_txt ?_
      array_get_dec
      refine ⟨⟨_, rfl⟩, ?_⟩
      array_get_dec
      rw [c_semi]
      refine st_split (by rw [SX.S_len]; rfl) (by rw [SX.S_len]; show _ ≤ 16777216; omega) (by rw [es, List.length_map]; show _ ≤ 16777216; omega) ?_
      rw [es, e0, List.map_map]
      array_get_dec
      exact hk _ rfl)
    rintro s rfl
    by_cases ep : p.take 7 = PL
    · refine st_join (fun s => s = [.d (.str (SX.S l)), .l (.str (SX.S p) :: ps.map fun q => .str (SX.S q)), .no, .no, .no, .no, .no]) ?_ (fun k hk => by
        array_get_dec
        refine st_ix_l (x := .str (SX.S p)) (L2.atI_nat (j := 0) rfl) ?_
        array_get_dec
        refine st_sl_s (by rw [SX.S_len]; show _ ≤ 16777216; omega) ?_
        rw [SX.slice_to (by decide), show p.take (7 : Int).toNat = p.take 7 from rfl, ep]
        array_get_dec
        exact hk _ rfl)
      rintro s rfl
      refine st_join (fun s => s = [.d (.str (SX.S l)), .l (.str (SX.S p) :: ps.map fun q => .str (SX.S q)), .d (optD (headF p)), .no, .no, .no, .no]) ?_ (fun k hk => by
        array_get_dec
        refine st_ix_l (x := .str (SX.S p)) (L2.atI_nat (j := 0) rfl) ?_
        array_get_dec
        refine st_sl_s (by rw [SX.S_len]; show _ ≤ 16777216; omega) ?_
        rw [SX.slice_from (by decide), show p.drop (7 : Int).toNat = p.drop 7 from rfl]
        array_get_dec
        refine e_number_o (by rw [List.length_drop]; omega) fun fin => ?_
        array_get_dec
        rw [show numF (p.drop 7) = headF p by unfold headF; rw [if_pos ep]]
        exact hk _ rfl)
      rintro s rfl
      refine st_join (fun s => s = [.d (.str (SX.S l)), .l (.str (SX.S p) :: ps.map fun q => .str (SX.S q)), .d (optD (headF p)), .l [], .no, .no, .no]) ?_ (fun k hk => by
        array_get_dec
        exact hk _ rfl)
      rintro s rfl
      refine st_join (fun s => s = [.d (.str (SX.S l)), .l (.str (SX.S p) :: ps.map fun q => .str (SX.S q)), .d (optD (headF p)), .l (ps.map tD), .no, .no, .no] ∧ ∀ q ∈ ps, 45 ∈ q) ?_ (fun k hk => by
        array_get_dec
        rw [cut_tail]
        refine loop_list (fun q => PyData.str (SX.S q)) (fun rest s => ∃ done, ps = done ++ rest ∧ (∀ q ∈ done, 45 ∈ q) ∧ s = [.d (.str (SX.S l)), .l (.str (SX.S p) :: ps.map fun q => .str (SX.S q)), .d (optD (headF p)), .l (done.map tD), .no, .no, .no]) ?_ ?_ ps _ ⟨[], rfl, fun q hq => (nomatch hq), rfl⟩
        · rintro s ⟨done, e, hd, rfl⟩
          rw [List.append_nil] at e
          subst e
          exact hk _ ⟨rfl, hd⟩
        · rintro a rest s kk ⟨done, e, hd, rfl⟩ hkk
          have ha : a ∈ ps := by rw [e]; simp
          have al := psl a ha
          have dl : done.length < ps.length := by rw [e, List.length_append, List.length_cons]; omega
          refine st_nm ?_
          array_get_dec
          refine st_txt ?_
          array_get_dec
          refine ⟨⟨_, rfl⟩, ?_⟩
          array_get_dec
          rw [c_dash]
          refine st_find ?_
          by_cases h45 : 45 ∈ a
          · have bl := befF_len h45
            rw [find_cut h45]
            array_get_dec
            refine st_sl_s (by rw [SX.S_len]; show _ ≤ 16777216; omega) ?_
            rw [to_cut h45]
            array_get_dec
            refine e_number_o (by omega) fun fin => ?_
            array_get_dec
            refine st_sl_s (by rw [SX.S_len]; show _ ≤ 16777216; omega) ?_
            rw [from_cut h45]
            array_get_dec
            refine e_number_o (by omega) fun fin => ?_
            array_get_dec
            refine st_append (by rw [List.length_map]; show _ < 16777216; omega) ?_
            array_get_dec
            refine hkk _ ⟨done ++ [a], by rw [e]; simp, fun q hq => ?_, by rw [List.map_append]; rfl⟩
            rcases List.mem_append.mp hq with hq | hq
            · exact hd q hq
            · rw [List.mem_singleton.mp hq]; exact h45
          · rw [find_no h45]
            array_get_dec
            exact bad2 (tiesF_none ha h45) _)
      rintro s ⟨rfl, h45⟩
      cases eh : headF p with
      | none =>
        array_get_dec
        exact bad1 eh _
      | some n =>
        have n0 : 0 ≤ n := by
          unfold headF at eh
          rw [if_pos ep] at eh
          exact numF_nn eh
        rw [show optD (some n) = .int n from rfl]
        array_get_dec
        refine ⟨by rw [List.length_map]; show _ ≤ 16777216; omega, ?_⟩
        dsimp only [List.set, wipeS, List.foldl]
        array_get_dec
        refine comp_list tD (fun q => .bool (decide (tieF q = none))) ps (fun q hq kT hkT => ?_) ?_
        · have h45 := h45 q hq
          have et : tieF q = match numF (befF 45 q), numF (aftF 45 q) with | some x, some y => some (x, y) | _, _ => none := by unfold tieF; rw [if_pos h45]
          have key : (cIn .none (tD q)) (fun r => r = .d (.bool (decide (tieF q = none)))) := by
            unfold tD
            rw [et]
            cases numF (befF 45 q) <;> cases numF (aftF 45 q) <;> exact ⟨rfl, rfl, rfl⟩
          refine st_nm ?_
          array_get_dec
          refine st_inT key ?_
          array_get_dec
          exact hkT
        array_get_dec
        refine st_any_map ?_
        rcases tiesF_cases ps with ⟨h1, h2⟩ | ⟨h1, ts, h2, h3⟩
        · rw [h1]
          array_get_dec
          exact bad2 h2 _
        · rw [h1, h3 h45]
          have t0 := (tiesF_nn h2).2
          have tl := (tiesF_nn h2).1
          have h := h
          rw [er, eh, h2] at h
          have ewb := webB_eq (ts := ts) n0 t0
          have h : ∀ fin, Q (.d (dueD (if webB (webD n ts) = true then .web n ts else .noweb))) fin := h
          rw [ewb] at h
          array_get_dec
          refine st_ite (fun c => ?_) (fun c => ?_)
          · array_get_dec
            rw [show decide (n ≤ 10) = false from decide_eq_false (by simpa using c)] at h
            exact h _
          rw [show decide (n ≤ 10) = true from decide_eq_true (by simpa using c)] at h
          array_get_dec
          refine ⟨by rw [List.length_map]; show _ ≤ 16777216; omega, ?_⟩
          array_get_dec
          refine comp_list pairD (fun t => .bool (decide (t.2 ≤ t.1) || decide (n ≤ t.2))) ts (fun t ht kT hkT => ?_) ?_
          · refine st_nm ?_
            rw [show pairD t = PyData.tuple [.int t.1, .int t.2] from rfl]
            array_get_dec
            refine st_ge2_i ?_
            array_get_dec
            by_cases c1 : t.2 ≤ t.1
            · rw [decide_eq_true c1]
              rw [decide_eq_true c1] at hkT
              array_get_dec
              exact hkT
            · rw [decide_eq_false c1]
              rw [decide_eq_false c1] at hkT
              array_get_dec
              refine st_ge2_i ?_
              array_get_dec
              exact hkT
          array_get_dec
          refine st_any_map ?_
          array_get_dec
          refine st_ite (fun c2 => ?_) (fun c2 => ?_)
          · array_get_dec
            rw [c2] at h
            exact h _
          rw [c2] at h
          array_get_dec
          rw [List.length_map]
          refine ⟨by unfold lim62; omega, ?_⟩
          array_get_dec
          refine ⟨by rw [rangeD_len]; show _ ≤ 16777216; omega, ?_⟩
          array_get_dec
          rw [rangeD_map, show ((ts.length : Int) - 1).toNat = ts.length - 1 by omega]
          refine comp_list PyData.int (fun k => .bool (!ltPr (ts.getD k.toNat (0, 0)) (ts.getD (k.toNat + 1) (0, 0)))) _ (fun k hk kT hkT => ?_) ?_
          · obtain ⟨k0, k1⟩ := rangeI_mem.mp hk
            obtain ⟨t, rfl⟩ := Int.eq_ofNat_of_zero_le k0
            have h1 : t < ts.length := by omega
            have h2 : t + 1 < ts.length := by omega
            have g1 : L2.atI (ts.map pairD) (t : Int) = some (pairD ts[t]) := L2.atI_nat (by rw [List.getElem?_map, List.getElem?_eq_getElem h1]; rfl)
            have g2 : L2.atI (ts.map pairD) ((t : Int) + 1) = some (pairD ts[t + 1]) := L2.atI_nat (j := t + 1) (by rw [List.getElem?_map, List.getElem?_eq_getElem h2]; rfl)
            refine st_nm ?_
            array_get_dec
            refine st_ix_l g1 ?_
            array_get_dec
            refine st_ix_l g2 ?_
            array_get_dec
            refine st_ge2_t (ns := [ts[t].1, ts[t].2]) (ms := [ts[t + 1].1, ts[t + 1].2]) ?_
            rw [lex_pair]
            array_get_dec
            have e1 : ts.getD (t : Int).toNat (0, 0) = ts[t] := by simp [List.getD_eq_getElem?_getD, h1]
            have e2 : ts.getD ((t : Int).toNat + 1) (0, 0) = ts[t + 1] := by simp [List.getD_eq_getElem?_getD, h2]
            rw [e1, e2] at hkT
            exact hkT
          array_get_dec
          refine st_any_map ?_
          rw [any_not_adj]
          cases w : adjP ts with
          | false =>
            array_get_dec
            rw [w] at h
            exact h _
          | true =>
            array_get_dec
            rw [w] at h
            exact h _
    · array_get_dec
      refine st_ix_l (x := .str (SX.S p)) (L2.atI_nat (j := 0) rfl) ?_
      array_get_dec
      refine st_sl_s (by rw [SX.S_len]; show _ ≤ 16777216; omega) ?_
      rw [SX.slice_to (by decide), show p.take (7 : Int).toNat = p.take 7 from rfl]
      array_get_dec
      rw [c_places, show decide (SX.S (p.take 7) = SX.S [112, 108, 97, 99, 101, 115, 32]) = false from decide_eq_false fun z => ep (SX.S_inj z)]
      array_get_dec
      exact bad1 (by unfold headF; rw [if_neg ep]) _
end Lk55
namespace Lk55
open PySem Hs
local macro_rules
  | `(tactic| sizeOf_list_dec) => `(tactic| first
    | with_reducible refine st_seq ?_ | with_reducible refine st_asg ?_ | with_reducible refine st_cons ?_ | with_reducible refine st_nil ?_ | with_reducible refine st_C ?_ | with_reducible refine st_op ?_
    | with_reducible refine st_var_d ?_ | with_reducible refine st_var_l ?_ | with_reducible refine st_var_ll ?_ | with_reducible refine st_var_dc ?_
    | with_reducible refine st_look_d ?_ | with_reducible refine st_look_top ?_ | with_reducible refine st_look_top_d ?_ | with_reducible refine st_look_own ?_ | with_reducible refine st_look_top_dc ?_ | with_reducible refine st_look_own_dc ?_ | with_reducible refine st_put_d ?_ | with_reducible refine st_put_own ?_ | with_reducible refine st_put_top_l ?_ | with_reducible refine st_put_top_ll ?_ | with_reducible refine st_put_top_dc ?_
    | ((with_reducible refine st_callF ?_ ?_); eq_refl) | with_reducible refine st_call ?_ | with_reducible refine st_putK_nil ?_ | with_reducible refine st_putK_t ?_ | with_reducible refine st_putK_f ?_ | with_reducible refine st_putK_td ?_ | with_reducible refine st_putK_to ?_ | with_reducible refine st_bind_nil ?_ | with_reducible refine st_bind_f ?_ | with_reducible refine st_bind_tt ?_ | with_reducible refine st_bind_td ?_ | with_reducible refine st_bind_to ?_
    | with_reducible refine st_frz_d ?_ | with_reducible refine st_frz_own ?_ | with_reducible refine st_frz_top ?_ | with_reducible refine st_frz_own_ll ?_ | with_reducible refine st_frz_own_dc ?_ | with_reducible refine st_frz_top_ll ?_ | with_reducible refine st_frz_top_dc ?_ | with_reducible refine st_frzAll_nil ?_ | with_reducible refine st_frzAll_cons ?_
    | with_reducible refine st_if ?_ | with_reducible refine st_B ?_ | with_reducible refine st_and ?_ | with_reducible refine st_or ?_ | with_reducible refine st_not ?_ | with_reducible refine st_yes ?_ | with_reducible refine st_isB ?_ | with_reducible refine st_t ?_ | with_reducible refine st_f ?_ | ((with_reducible refine st_iteT ?_ ?_); decide) | ((with_reducible refine st_iteF ?_ ?_); decide)
    | with_reducible refine st_nt ?_ | with_reducible refine st_nf ?_
    | with_reducible refine st_ret ?_ | with_reducible refine st_next ?_ | with_reducible refine st_retN ?_ | with_reducible refine st_drop ?_ | with_reducible refine st_break ?_ | with_reducible refine st_raise ?_
    | with_reducible refine st_out_d ?_ | with_reducible refine st_out_own ?_ | with_reducible refine st_out_top ?_
    | with_reducible refine st_tup ?_ | with_reducible refine st_lst ?_ | with_reducible refine st_un ?_ | with_reducible refine st_blt ?_ | with_reducible refine st_lookAll_nil ?_ | with_reducible refine st_lookAll_cons ?_
    | with_reducible refine st_unp ?_ | with_reducible refine st_par ?_ | with_reducible refine st_setIx ?_ | with_reducible refine st_onL ?_ | with_reducible refine st_for ?_ | with_reducible refine st_wipe_nil ?_ | with_reducible refine st_wipe_cons ?_ | with_reducible refine st_andV ?_ | with_reducible refine st_orV ?_ | with_reducible refine st_notV ?_ | with_reducible refine st_ifE ?_ | with_reducible refine st_chain ?_
    | with_reducible refine st_sl ?_ | with_reducible refine st_noPart ?_ | with_reducible refine st_part ?_ | with_reducible refine st_lc ?_ | with_reducible refine st_lm ?_
    | with_reducible refine st_seqI ?_ | with_reducible refine st_range1 ?_ | with_reducible refine st_range2 ?_ | with_reducible refine st_enum ?_ | with_reducible refine st_zip ?_
    | with_reducible refine st_nm ?_ | with_reducible refine st_tp ?_ | with_reducible refine st_tps_nil ?_ | with_reducible refine st_tps_cons ?_
    | ((with_reducible refine st_mod_i ?_ ?_); (first | decide | omega)) | ((with_reducible refine st_fdiv_i ?_ ?_); decide) 
    | with_reducible refine st_add_i ?_ | with_reducible refine st_sub_i ?_ | with_reducible refine st_neg_i ?_ | with_reducible refine st_eq_i ?_ | with_reducible refine st_ne_i ?_ | with_reducible refine st_eq_str ?_ | with_reducible refine st_ne_str ?_ | with_reducible refine st_eq_b ?_ | with_reducible refine st_ne_b ?_ | with_reducible refine st_lt_i ?_ | with_reducible refine st_le_i ?_ | with_reducible refine st_gt_i ?_ | with_reducible refine st_ge_i ?_
    | with_reducible refine st_is_n ?_ | with_reducible refine st_isNot_n ?_ | with_reducible refine st_is_b ?_ | with_reducible refine st_isNot_b ?_ | ((with_reducible refine st_ix_l (x := ?_) ?_ ?_); rotate_left; eq_refl) | ((with_reducible refine st_ix_t (x := ?_) ?_ ?_); rotate_left; eq_refl) | with_reducible refine st_len_l ?_ | with_reducible refine st_len_t ?_ | with_reducible refine st_len_lit ?_
    | with_reducible refine st_abs ?_ | with_reducible refine st_max2 ?_ | with_reducible refine st_min2 ?_ | with_reducible refine st_int_i ?_ | with_reducible refine st_int_b ?_ | with_reducible refine st_tuple_l ?_ | with_reducible refine st_tuple_t ?_ | with_reducible refine st_list_l ?_ | with_reducible refine st_list_t ?_ | ((with_reducible refine st_isT ?_ ?_); eq_refl) | ((with_reducible refine st_isTT ?_ ?_); eq_refl) | ((with_reducible refine st_isTF ?_ ?_); eq_refl) | ((with_reducible refine st_isNT ?_ ?_); eq_refl) | ((with_reducible refine st_isNF ?_ ?_); eq_refl)
    | with_reducible refine st_rg1 ?_ | with_reducible refine st_rg2 ?_ | with_reducible refine st_enumL ?_ | with_reducible refine st_zipS ?_ | with_reducible refine st_rev_l ?_ | with_reducible refine st_rev_t ?_
    | with_reducible refine st_ne_ll ?_ | with_reducible refine st_ne_lit ?_ | with_reducible refine st_in_pt ?_ | with_reducible refine st_in_pl ?_
    | with_reducible refine st_sl_l ?_ | with_reducible refine st_sl_t ?_
    | ((with_reducible refine st_iteLen ?_ ?_); eq_refl) | ((with_reducible refine st_iteNLen ?_ ?_); eq_refl) | with_reducible refine st_iteBB ?_ | ((with_reducible refine st_iteND ?_ ?_); omega) | ((with_reducible refine st_iteNF ?_ ?_); omega)
    | ((with_reducible refine st_iteT (decide_eq_true ?_) ?_); omega) | ((with_reducible refine st_iteF (decide_eq_false ?_) ?_); omega))
local macro_rules
  | `(tactic| sizeOf_list_dec) => `(tactic| with_reducible refine stepTo ?_)
local macro_rules
  | `(tactic| array_get_dec) => `(tactic| repeat sizeOf_list_dec)
local macro_rules
  | `(tactic| sizeOf_list_dec) => `(tactic| first | with_reducible refine st_ix2_l ?_ | with_reducible refine st_ix2_t ?_ | with_reducible refine st_ix2_s ?_ | with_reducible refine st_ix2_lit ?_ | with_reducible refine st_inK_l ?_ | with_reducible refine st_inK_t ?_ | with_reducible refine st_ninK_l ?_ | with_reducible refine st_ninK_t ?_ | with_reducible refine st_setD ?_ | with_reducible refine st_onDc ?_ | with_reducible refine st_dget2 ?_ | with_reducible refine st_emT ?_ | with_reducible refine st_emD ?_ | with_reducible refine st_disp1 ?_ | with_reducible refine st_disp1k ?_ | with_reducible refine st_range3 ?_ | with_reducible refine st_bor ?_ | with_reducible refine st_borT ?_ | with_reducible refine st_bindT_nil ?_ | with_reducible refine st_bindT_d ?_ | with_reducible refine st_bindT_o ?_ | with_reducible refine st_bindT_t ?_ | with_reducible refine st_toPs_nil ?_ | with_reducible refine st_toPs_d ?_ | with_reducible refine st_toPs_l ?_ | with_reducible refine st_toPs_dc ?_ | with_reducible refine st_tupO ?_ | with_reducible refine st_var_tp ?_ | with_reducible refine st_frz_own_tp ?_ | with_reducible refine st_frz_top_tp ?_ | with_reducible refine st_lmP ?_ | ((with_reducible refine st_onP ?_ ?_); eq_refl) | with_reducible refine st_flat_b ?_ | with_reducible refine st_flat_i ?_)
local macro_rules
  | `(tactic| sizeOf_list_dec) => `(tactic| with_reducible refine is_whole_ok fun _ => ?_)
local macro_rules
  | `(tactic| sizeOf_list_dec) => `(tactic| first | ((with_reducible refine st_isX (b := false) ?_ ?_); (decide +kernel)) | ((with_reducible refine st_isX (b := true) ?_ ?_); (decide +kernel)) | with_reducible refine st_try ?_)
local macro_rules
  | `(tactic| sizeOf_list_dec) => `(tactic| first | with_reducible refine st_in_il ?_ | with_reducible refine st_in_it ?_ | with_reducible refine st_notIn_il ?_ | with_reducible refine st_notIn_it ?_ | with_reducible refine st_ne_ll ?_)
local macro_rules
  | `(tactic| sizeOf_list_dec) => `(tactic| with_reducible refine st_emD ?_)
local macro_rules
  | `(tactic| sizeOf_list_dec) => `(tactic| first | with_reducible refine st_lcX ?_)
theorem kind_text_x {X : XF} {Q : R → S → Prop} (h : ∀ fin, Q (.d (.str "text")) fin) : m__law_e_kind [.d (excD "NoText")] X Q := by
  unfold m__law_e_kind b__law_e_kind
  refine st_sem rfl ?_
  array_get_dec
  refine st_add_l (by show 3 + 3 ≤ 16777216; decide) ?_
  array_get_dec
  refine st_add_l (by show 6 + 3 ≤ 16777216; decide) ?_
  array_get_dec
  refine st_countB (bs := [false, false, false, false, true, false, false, false, false]) ?_
  array_get_dec
  refine st_indexB (bs := [false, false, false, false, true, false, false, false, false]) (by decide) ?_
  array_get_dec
  exact h _
theorem kind_web_x {X : XF} {Q : R → S → Prop} (h : ∀ fin, Q (.d (.str "web")) fin) : m__law_e_kind [.d (excD "NoWeb")] X Q := by
  unfold m__law_e_kind b__law_e_kind
  refine st_sem rfl ?_
  array_get_dec
  refine st_add_l (by show 3 + 3 ≤ 16777216; decide) ?_
  array_get_dec
  refine st_add_l (by show 6 + 3 ≤ 16777216; decide) ?_
  array_get_dec
  refine st_countB (bs := [false, false, false, false, false, false, false, true, false]) ?_
  array_get_dec
  refine st_indexB (bs := [false, false, false, false, false, false, false, true, false]) (by decide) ?_
  array_get_dec
  exact h _
theorem told_x {l : List Nat} (hl : l.length ≤ 1900) {X : XF} {Q : R → S → Prop} (h : ∀ fin, Q (.d (dueD (readF l))) fin) : m__law_e_told [.d (.str (SX.S l))] X Q := by
  unfold m__law_e_told b__law_e_told
  refine st_sem rfl ?_
  array_get_dec
  refine read_web_x hl (fun q fin => ?_) (fun q fin => ?_) (fun n ts q fin => ?_)
  · rw [q] at h
    refine ⟨by simp, ?_⟩
    dsimp only [List.take, List.tail, List.set, putB]
    array_get_dec
    dsimp only [List.set]
    array_get_dec
    refine kind_text_x fun fin => ?_
    array_get_dec
    exact h _
  · rw [q] at h
    refine ⟨by simp, ?_⟩
    dsimp only [List.take, List.tail, List.set, putB]
    array_get_dec
    dsimp only [List.set]
    array_get_dec
    refine kind_web_x fun fin => ?_
    array_get_dec
    exact h _
  · rw [q] at h
    array_get_dec
    exact h _
theorem shown_x {d : D} (hd : okB 4 d = true) (hw : webB d = false) {X : XF} {Q : R → S → Prop} (h : ∀ fin, Q (.d (.bool true)) fin) : m__law_e_shown [.d d] X Q := by
  unfold m__law_e_shown b__law_e_shown
  refine st_sem rfl ?_
  array_get_dec
  unfold m_show_web b_show_web
  refine st_sem rfl ?_
  array_get_dec
  refine need_web_no hd hw fun fin => ?_
  array_get_dec
  refine ⟨by simp, ?_⟩
  dsimp only [List.take, List.tail, List.set, putB]
  array_get_dec
  dsimp only [List.set]
  array_get_dec
  refine kind_web_x fun fin => ?_
  array_get_dec
  exact h _
theorem st_ne_due {o : Out} {k : R → Prop} (h : k (.d (.bool false))) : cNe (dueD o) (dueD o) k := by
  cases o with
  | bad => exact st_ne_str h
  | noweb => exact st_ne_str h
  | web n ts => exact st_ne_webS h
theorem dgs_len1 {n : Int} (h0 : 0 ≤ n) (h9 : n ≤ 9) : (dgs n).length ≤ 1 := by
  rcases (show n = 0 ∨ n = 1 ∨ n = 2 ∨ n = 3 ∨ n = 4 ∨ n = 5 ∨ n = 6 ∨ n = 7 ∨ n = 8 ∨ n = 9 by omega) with rfl | rfl | rfl | rfl | rfl | rfl | rfl | rfl | rfl | rfl <;> decide +kernel
theorem web_len5 {n : Int} {ts : List (Int × Int)} (g : Good n ts) : (webL n ts).length ≤ 520 := by
  have few := good_few g
  have hd := head_len g.n0 g.n10
  have tl : ∀ p ∈ ts.map tieL, p.length ≤ 3 := fun p hp => by
    obtain ⟨q, hq, rfl⟩ := List.mem_map.mp hp
    have b := g.ties q hq
    have n10 := g.n10
    have a1 := dgs_len1 (n := q.1) (by omega) (by omega)
    have a2 := dgs_len1 (n := q.2) (by omega) (by omega)
    rw [tieL_eq]
    simp only [List.length_append, List.length_cons, List.length_nil]
    omega
  have := joinL_len (s := [59, 32]) tl
  rw [List.length_map] at this
  unfold webL partsL
  cases e : ts.map tieL with
  | nil => show (headL n).length ≤ _; omega
  | cons a r =>
    show (headL n ++ ([59, 32] ++ TL.joinL [59, 32] (a :: r))).length ≤ _
    rw [← e, List.length_append, List.length_append]
    have e2 : ([59, 32] : List Nat).length = 2 := rfl
    have e3 : ts.length * (([59, 32] : List Nat).length + 3) = ts.length * 5 := rfl
    rw [e3] at this
    rw [e2]
    omega
def txD (l : List Nat) : D := .str (SX.S l)
theorem each_change_x {l : List Nat} (hl : l.length ≤ 600) {X : XF} {Q : R → S → Prop} (h : ∀ (ys : List (List Nat)) fin, ys.length ≤ 100000 → (∀ y ∈ ys, y.length ≤ 700) → Q (.own (.l (ys.map txD))) fin) : m__law_e_each_change [.d (.str (SX.S l))] X Q := by
  unfold m__law_e_each_change b__law_e_each_change
  refine st_sem rfl ?_
  array_get_dec
  refine ⟨by rw [SX.S_len]; show _ ≤ 16777216; omega, ?_⟩
  rw [SX.S_len]
  array_get_dec
  refine ⟨by unfold lim62; omega, ?_⟩
  array_get_dec
  refine loop_range1 (hi := (l.length : Int) + 1) (fun i s => ∃ ys : List (List Nat), s = [.d (.str (SX.S l)), .l (ys.map txD), .no, .no] ∧ (ys.length : Int) ≤ 100 * i ∧ ∀ y ∈ ys, y.length ≤ 700) ?_ ?_ ⟨[], rfl, by decide, fun y hy => nomatch hy⟩
  · rintro s ⟨ys, rfl, h1, h2⟩
    array_get_dec
    exact h ys _ (by omega) h2
  · rintro i s k hi hin ⟨ys, rfl, h1, h2⟩ hk
    refine st_nm ?_
    array_get_dec
    refine st_sl_s (by rw [SX.S_len]; show _ ≤ 16777216; omega) ?_
    rw [SX.slice_to hi]
    array_get_dec
    refine st_sl_s (by rw [SX.S_len]; show _ ≤ 16777216; omega) ?_
    rw [SX.slice_from (by omega)]
    have b1 : (l.take i.toNat).length ≤ 600 := by rw [List.length_take]; omega
    have b2 : (l.drop (i + 1).toNat).length ≤ 600 := by rw [List.length_drop]; omega
    have b3 : (l.take i.toNat).length + (l.drop i.toNat).length ≤ 600 := by rw [List.length_take, List.length_drop]; omega
    have b4 : (l.take i.toNat).length + (l.drop (i + 1).toNat).length ≤ 600 := by rw [List.length_take, List.length_drop]; omega
    array_get_dec
    refine st_cat (a := l.take i.toNat) (b := l.drop (i + 1).toNat) (by omega) ?_
    array_get_dec
    refine st_append (by rw [List.length_map]; show _ < 16777216; omega) ?_
    array_get_dec
    unfold iStrD
    array_get_dec
    rw [show signsD "0123 ;-/,.+pP\n" = ([48, 49, 50, 51, 32, 59, 45, 47, 44, 46, 43, 112, 80, 10] : List Nat).map (fun c => txD [c]) from rfl]
    refine loop_list (fun c => txD [c]) (fun cs s => ∃ ys : List (List Nat), s = [.d (.str (SX.S l)), .l (ys.map txD), .d (.int i), .no] ∧ (ys.length : Int) + 2 * cs.length ≤ 100 * i + 100 ∧ ∀ y ∈ ys, y.length ≤ 700) ?_ ?_ _ _ ⟨ys ++ [l.take i.toNat ++ l.drop (i + 1).toNat], by rw [List.map_append]; rfl, by rw [List.length_append]; simp; omega, fun y hy => ?_⟩
    · rintro s ⟨ys, rfl, h1, h2⟩
      array_get_dec
      exact hk _ ⟨ys, rfl, by simp at h1; omega, h2⟩
    · rintro c cs s k2 ⟨ys, rfl, h1, h2⟩ hk2
      rw [List.length_cons] at h1
      refine st_nm ?_
      array_get_dec
      refine st_sl_s (by rw [SX.S_len]; show _ ≤ 16777216; omega) ?_
      rw [SX.slice_to hi]
      array_get_dec
      unfold txD
      refine st_cat (a := l.take i.toNat) (b := [c]) (by show _ + 1 ≤ 16777216; omega) ?_
      array_get_dec
      refine st_sl_s (by rw [SX.S_len]; show _ ≤ 16777216; omega) ?_
      rw [SX.slice_from (by omega)]
      array_get_dec
      refine st_cat (a := l.take i.toNat ++ [c]) (b := l.drop (i + 1).toNat) (by rw [List.length_append]; show _ + 1 + _ ≤ 16777216; omega) ?_
      array_get_dec
      refine st_sl_s (by rw [SX.S_len]; show _ ≤ 16777216; omega) ?_
      rw [SX.slice_to hi]
      array_get_dec
      refine st_cat (a := l.take i.toNat) (b := [c]) (by show _ + 1 ≤ 16777216; omega) ?_
      array_get_dec
      refine st_sl_s (by rw [SX.S_len]; show _ ≤ 16777216; omega) ?_
      rw [SX.slice_from hi]
      array_get_dec
      refine st_cat (a := l.take i.toNat ++ [c]) (b := l.drop i.toNat) (by rw [List.length_append]; show _ + 1 + _ ≤ 16777216; omega) ?_
      array_get_dec
      refine st_add_l (by rw [List.length_map]; show _ + 2 ≤ 16777216; omega) ?_
      array_get_dec
      refine hk2 _ ⟨ys ++ [l.take i.toNat ++ [c] ++ l.drop (i + 1).toNat, l.take i.toNat ++ [c] ++ l.drop i.toNat], by rw [List.map_append]; rfl, by rw [List.length_append]; simp; omega, fun y hy => ?_⟩
      rcases List.mem_append.mp hy with hy | hy
      · exact h2 y hy
      · simp only [List.mem_cons, List.not_mem_nil, or_false] at hy
        rcases hy with rfl | rfl
        · rw [List.length_append, List.length_append]; show _ + 1 + _ ≤ 700; omega
        · rw [List.length_append, List.length_append]; show _ + 1 + _ ≤ 700; omega
    · rcases List.mem_append.mp hy with hy | hy
      · exact h2 y hy
      · rw [List.mem_singleton.mp hy, List.length_append]
        omega
def SG : List Nat := [32, 33, 34, 35, 36, 38, 39, 40, 41, 42, 43, 44, 45, 46, 47, 48, 49, 50, 51, 52, 53, 54, 55, 56, 57, 58, 59, 60, 61, 62, 63, 64, 65, 66, 67, 68, 69, 70, 71, 72, 73, 74, 75, 76, 77, 78, 79, 80, 81, 82, 83, 84, 85, 86, 87, 88, 89, 90, 91, 92, 93, 94, 95, 96, 97, 98, 99, 100, 101, 102, 103, 104, 105, 106, 107, 108, 109, 110, 111, 112, 113, 114, 115, 116, 117, 118, 119, 120, 121, 122, 123, 124, 125, 126, 9, 10]
theorem c_sgn : (" !\"#$&'()*+,-./0123456789:;<=>?@ABCDEFGHIJKLMNOPQRSTUVWXYZ[\\]^_`abcdefghijklmnopqrstuvwxyz{|}~\t\n" : Str) = SX.S SG := by decide +kernel
theorem st_catB {a : List Nat} {z : Str} {B : Nat} {k : R → Prop} (hb : a.length + z.length ≤ B) (hB : B ≤ 16777216) (h : ∀ y : List Nat, y.length ≤ B → k (.d (.str (SX.S y)))) : opAdd (.str (SX.S a)) (.str z) k := by
  obtain ⟨w, rfl⟩ := S_eta z
  rw [SX.S_len] at hb
  exact st_cat (by omega) (h _ (by rw [List.length_append]; exact hb))
theorem st_ix_all {L : List D} {P : D → Prop} {r : Int} {k : R → Prop} (h0 : 0 ≤ r) (h1 : r < L.length) (hP : ∀ d ∈ L, P d) (h : ∀ d, P d → k (.d d)) : ixD (.list L) (.int r) k := by
  obtain ⟨j, rfl⟩ := Int.eq_ofNat_of_zero_le h0
  have hj : j < L.length := by omega
  exact st_ix_l (L2.atI_nat (List.getElem?_eq_getElem hj)) (h _ (hP _ (List.getElem_mem hj)))
theorem st_ix_s {z : Str} {n : Int} {c : Nat} {k : R → Prop} (hz : z.length ≤ sizeLine) (e : L2.atI z.cps.toList n = some c) (h : k (.d (.str ⟨#[c]⟩))) : ixD (.str z) (.int n) k := by
  show z.length ≤ sizeLine ∧ (match L2.atI z.cps.toList n with | some c => k (.d (.str ⟨#[c]⟩)) | none => False)
  refine ⟨hz, ?_⟩
  rw [e]
  exact h
def TX (B : Nat) (d : D) : Prop := ∃ y : List Nat, d = txD y ∧ y.length ≤ B
theorem bent_x {ns : List Int} {F : Nat} {xs : List D} {l : List Nat} (hl : l.length ≤ 520) (hc : Cup ns (F + 3) xs) {X : XF} {Q : R → S → Prop} (h : ∀ y xs', Cup ns F xs' → y.length ≤ 1900 → Q (.d (txD y)) [.l xs', .d (.str (SX.S l))]) :
    m__law_e_bent [.l xs, .d (.str (SX.S l))] X Q := by
  unfold m__law_e_bent b__law_e_bent
  refine st_sem rfl ?_
  rw [c_sgn]
  array_get_dec
  refine ⟨by rw [SX.S_len]; show _ ≤ 16777216; omega, ?_⟩
  rw [SX.S_len]
  array_get_dec
  refine dip_ok (F := F + 2) hc (by omega) (Nat.lt_of_le_of_lt (show _ ≤ 1000 by omega) (by decide)) fun at' xs1 hc1 a0 a1 => ?_
  array_get_dec
  refine ⟨by rw [SX.S_len]; decide, ?_⟩
  rw [SX.S_len, show SG.length = 96 from rfl]
  array_get_dec
  refine dip_ok (F := F + 1) hc1 (by decide) (by decide) fun ci xs2 hc2 c0 c1 => ?_
  array_get_dec
  obtain ⟨c, ec⟩ : ∃ c, L2.atI (SX.S SG).cps.toList ci = some c := by
    obtain ⟨j, rfl⟩ := Int.eq_ofNat_of_zero_le c0
    exact ⟨_, L2.atI_nat (List.getElem?_eq_getElem (show j < SG.length by show j < 96; omega))⟩
  refine st_ix_s (by rw [SX.S_len]; show 96 ≤ 16777216; decide) ec ?_
  array_get_dec
  have b1 : (l.take at'.toNat).length ≤ 520 := by rw [List.length_take]; omega
  have b2 : (l.drop (at' + 1).toNat).length ≤ 520 := by rw [List.length_drop]; omega
  have b3 : (l.drop at'.toNat).length ≤ 520 := by rw [List.length_drop]; omega
  have c1 : ([c] : List Nat).length = 1 := rfl
  refine st_sl_s (by rw [SX.S_len]; show _ ≤ 16777216; omega) ?_
  rw [SX.slice_to a0]
  array_get_dec
  rw [show (⟨#[c]⟩ : Str) = SX.S [c] from rfl]
  refine st_catB (B := 521) (by rw [SX.S_len]; omega) (by decide) fun y1 q1 => ?_
  array_get_dec
  refine st_sl_s (by rw [SX.S_len]; show _ ≤ 16777216; omega) ?_
  rw [SX.slice_from (by omega)]
  array_get_dec
  refine st_catB (B := 1100) (by rw [SX.S_len]; omega) (by decide) fun y2 q2 => ?_
  array_get_dec
  refine st_sl_s (by rw [SX.S_len]; show _ ≤ 16777216; omega) ?_
  rw [SX.slice_to a0]
  array_get_dec
  refine st_catB (B := 521) (by rw [SX.S_len]; omega) (by decide) fun y3 q3 => ?_
  array_get_dec
  refine st_sl_s (by rw [SX.S_len]; show _ ≤ 16777216; omega) ?_
  rw [SX.slice_from a0]
  array_get_dec
  refine st_catB (B := 1100) (by rw [SX.S_len]; omega) (by decide) fun y4 q4 => ?_
  array_get_dec
  refine st_catB (B := 540) (Nat.add_le_add hl (show _ ≤ 20 by decide +kernel)) (by decide) fun y5 q5 => ?_
  array_get_dec
  refine st_catB (B := 540) (Nat.add_le_add hl (show _ ≤ 20 by decide +kernel)) (by decide) fun y6 q6 => ?_
  array_get_dec
  rw [c_blank]
  refine st_catB (B := 521) (by rw [SX.S_len]; show 1 + _ ≤ 521; omega) (by decide) fun y7 q7 => ?_
  array_get_dec
  refine st_catB (B := 540) (Nat.add_le_add hl (show _ ≤ 20 by decide +kernel)) (by decide) fun y8a q8a => ?_
  array_get_dec
  refine st_catB (B := 1100) (by rw [SX.S_len]; omega) (by decide) fun y8 q8 => ?_
  array_get_dec
  refine st_catB (B := 540) (Nat.add_le_add hl (show _ ≤ 20 by decide +kernel)) (by decide) fun y9 q9 => ?_
  array_get_dec
  refine st_catB (B := 540) (Nat.add_le_add hl (show _ ≤ 20 by decide +kernel)) (by decide) fun y10 q10 => ?_
  array_get_dec
  refine st_catB (B := 540) (Nat.add_le_add hl (show _ ≤ 20 by decide +kernel)) (by decide) fun y11 q11 => ?_
  array_get_dec
  refine st_add_l (by show 4 + 5 ≤ 16777216; decide) ?_
  array_get_dec
  refine st_catB (B := 540) (Nat.add_le_add hl (show _ ≤ 20 by decide +kernel)) (by decide) fun y12 q12 => ?_
  array_get_dec
  refine st_catB (B := 540) (Nat.add_le_add hl (show _ ≤ 20 by decide +kernel)) (by decide) fun y13 q13 => ?_
  array_get_dec
  refine st_catB (B := 540) (Nat.add_le_add hl (show _ ≤ 20 by decide +kernel)) (by decide) fun y14 q14 => ?_
  array_get_dec
  refine st_repC ?_
  array_get_dec
  have lr := TK.replace_len (SX.S l) "; " ";"
  rw [SX.S_len l, show (";" : Str).length = 1 from by decide +kernel] at lr
  refine ⟨_, rfl, by rw [SX.S_len, show (";" : Str).length = 1 from by decide +kernel]; omega, ?_⟩
  obtain ⟨y15, e15⟩ := S_eta (Txt.replace (SX.S l) "; " ";")
  have l15 : (Txt.replace (SX.S l) "; " ";").length = y15.length := by rw [e15, SX.S_len]
  rw [l15] at lr
  rw [e15]
  array_get_dec
  refine st_add_l (by show 9 + 4 ≤ 16777216; decide) ?_
  array_get_dec
  refine st_upT ?_
  array_get_dec
  have lu := PyProof.Rows.len_upper (SX.S l)
  refine ⟨_, rfl, by rw [SX.S_len]; omega, ?_⟩
  obtain ⟨y16, e16⟩ := S_eta (Txt.upper (SX.S l))
  rw [e16, SX.S_len, SX.S_len] at lu
  rw [e16]
  array_get_dec
  refine st_sl_s (by rw [SX.S_len]; show _ ≤ 16777216; omega) ?_
  rw [SX.slice_to a0]
  array_get_dec
  refine st_catB (B := 540) (Nat.add_le_add hl (show _ ≤ 20 by decide +kernel)) (by decide) fun y17 q17 => ?_
  array_get_dec
  refine st_add_l (by show 13 + 3 ≤ 16777216; decide) ?_
  array_get_dec
  refine dip_ok (m := 16) (F := F) hc2 (by decide) (by decide) fun r xs3 hc3 r0 r1 => ?_
  array_get_dec
  refine st_ix_all (P := TX 1900) r0 r1 (fun d hd => ?_) (fun d ⟨y, e, hy⟩ => ?_)
  · simp only [List.cons_append, List.nil_append, List.mem_cons, List.not_mem_nil, or_false] at hd
    rcases hd with rfl | rfl | rfl | rfl | rfl | rfl | rfl | rfl | rfl | rfl | rfl | rfl | rfl | rfl | rfl | rfl <;> exact ⟨_, rfl, by omega⟩
  · subst e
    array_get_dec
    exact h y xs3 hc3 hy
def rows55 : List Str := ["", "places", "places ", "places 11", "places 999999", "places 1000000", "places 010", "places 10",
  "places  2", "places 2; 1-0", "places 2; 0-0", "places 2; 0-2", "places 2; 0-1; 0-1",
  "places 3; 0-2; 0-1", "place 2", "places 2;0-1", "places 2; 0-1 ", "places 2; 00-1",
  "places 2; 0 -1", "places 2; -1", "places 2; 0--1", "places 11; x", "places 2; 1-0; 0-",
  "places 999999; 01-2", "places 2; 0-2; 1-1-1"]
def bads55 : List D := [.none, .tuple [], .tuple [.int 11, .tuple []], .tuple [.int 2, .tuple [.tuple [.int 1, .int 0]]], .tuple [.int 1, .tuple [.tuple [.int 0, .int 1]]], .list [.int 0, .tuple []], .str "places 0"]
theorem law_holds : ∀ ns : List Int, ns.length ≤ 63 → (∀ z ∈ ns, Builtin.Int.intBits z ≤ 1048576) → m_law [.d (litD ns)] (fun _ _ => False) (fun r _ => r = .d (.bool true)) := by
  intro ns hns _
  unfold m_law b_law
  refine st_sem rfl ?_
  refine st_join (fun s => s = [.d (litD ns), .l [litD ns, .int 0, .int 0], .no, .no, .no, .no, .no, .no, .no]) ?_ (fun k hk => by array_get_dec; exact hk _ rfl)
  rintro s rfl
  refine st_join (fun s => ∃ xs, s = [.d (litD ns), .l xs, .no, .no, .no, .no, .no, .no, .no]) ?_ (fun k hk => ?_)
  · rintro s ⟨xs, rfl⟩
    array_get_dec
    refine st_add_l (by show 8 + 5 ≤ 16777216; decide) ?_
    array_get_dec
    refine st_add_l (by show 13 + 5 ≤ 16777216; decide) ?_
    array_get_dec
    refine st_add_l (by show 18 + 5 ≤ 16777216; decide) ?_
    array_get_dec
    refine st_add_l (by show 23 + 2 ≤ 16777216; decide) ?_
    array_get_dec
    generalize hR : (_ ++ _ ++ _ ++ _ ++ _ : List D) = R
    obtain rfl : R = rows55.map .str := hR.symm
    refine loop_list PyData.str (fun rest s => (∀ z ∈ rest, z.length ≤ 100) ∧ s = [.d (litD ns), .l xs, .no, .no, .no, .no, .d (.list (rows55.map .str)), .no, .no]) ?_ ?_ rows55 _ ⟨by decide +kernel, rfl⟩
    · rintro s ⟨_, rfl⟩
      generalize rows55.map PyData.str = Rw
      array_get_dec
      refine ⟨by show 7 ≤ 16777216; decide, ?_⟩
      array_get_dec
      refine comp_list (fun d : D => d) (fun _ => .bool true) bads55 (fun d hd kT hkT => ?_) ?_
      · have h2 : (okB 4 d && !webB d) = true := List.all_eq_true.mp (show (bads55.all fun d => okB 4 d && !webB d) = true by decide +kernel) d hd
        rw [Bool.and_eq_true, Bool.not_eq_true'] at h2
        refine st_nm ?_
        array_get_dec
        refine shown_x h2.1 h2.2 fun fin => ?_
        array_get_dec
        exact hkT
      array_get_dec
      refine st_all_map ?_
      rw [show (bads55.all fun _ => true) = true by decide]
      array_get_dec
      rfl
    · rintro z rest s k5 ⟨hz, rfl⟩ hk5
      have hb := hz z List.mem_cons_self
      obtain ⟨y, rfl⟩ := S_eta z
      rw [SX.S_len] at hb
      refine st_nm ?_
      array_get_dec
      refine told_x (by omega) fun fin => ?_
      array_get_dec
      refine e_due_x (by omega) fun fin => ?_
      array_get_dec
      refine st_ne_due ?_
      array_get_dec
      exact hk5 _ ⟨fun w hw => hz w (List.mem_cons_of_mem _ hw), rfl⟩
  · array_get_dec
    refine ⟨by decide, ?_⟩
    array_get_dec
    refine loop_range1 (hi := 2) (fun i s => ∃ xs : List D, s = [.d (litD ns), .l xs, .no, .no, .no, .no, .no, .no, .no] ∧ Cup ns (1000 * (2 - i).toNat) xs) (fun s ⟨xs, e, _⟩ => hk s ⟨xs, e⟩) ?_ ⟨_, rfl, 0, 0, rfl, by decide, by decide⟩
    rintro i s k2 hi hin ⟨xs, rfl, hc⟩ hk2
    refine st_nm ?_
    refine st_join (fun s => ∃ xs : List D, s = [.d (litD ns), .l xs, .d (.int i), .no, .no, .no, .no, .no, .no] ∧ Cup ns (1000 * (2 - i).toNat) xs) ?_ (fun k3 hk3 => ?_)
    · rintro s ⟨xs, rfl, hc⟩
      refine st_join (fun s => ∃ xs : List D, s = [.d (litD ns), .l xs, .d (.int i), .no, .no, .no, .no, .no, .no] ∧ Cup ns (1000 * (2 - (i + 1)).toNat + 800) xs) ?_ (fun k3 hk3 => ?_)
      · rintro s ⟨xs, rfl, hc⟩
        array_get_dec
        refine e_web_ok (F := 1000 * (2 - (i + 1)).toNat + 100) (hc.less (by omega)) (by decide) (by decide) fun n ts xs1 hc1 g hn => ?_
        array_get_dec
        refine text_ok g fun fin => ?_
        have wl := web_len5 g
        array_get_dec
        refine ⟨by decide, ?_⟩
        array_get_dec
        refine loop_range1 (hi := 8) (fun t s => ∃ xs : List D, s = [.d (litD ns), .l xs, .d (.int i), .no, .d (.str (SX.S (webL n ts))), .no, .no, .no, .no] ∧ Cup ns (1000 * (2 - (i + 1)).toNat + 10 * (8 - t).toNat) xs) ?_ ?_ ⟨_, rfl, hc1.less (by omega)⟩
        · rintro s ⟨xs, rfl, hc⟩
          exact hk2 _ ⟨_, rfl, hc.less (by omega)⟩
        · rintro t s k5 ht0 ht1 ⟨xs, rfl, hc⟩ hk5
          refine st_nm ?_
          array_get_dec
          refine bent_x (F := 1000 * (2 - (i + 1)).toNat + 10 * (8 - (t + 1)).toNat) wl (hc.less (by omega)) fun y xs2 hc2 hy => ?_
          array_get_dec
          refine told_x hy fun fin => ?_
          array_get_dec
          refine e_due_x hy fun fin => ?_
          array_get_dec
          refine st_ne_due ?_
          array_get_dec
          exact hk5 _ ⟨_, rfl, hc2⟩
      · array_get_dec
        refine e_web_ok (F := 1000 * (2 - (i + 1)).toNat + 800) (hc.less (by omega)) (by decide) (by decide) fun n ts xs1 hc1 g hn => ?_
        array_get_dec
        refine text_ok g fun fin => ?_
        have wl := web_len5 g
        array_get_dec
        refine each_change_x (by omega) fun ys fin hl hy => ?_
        array_get_dec
        refine loop_list txD (fun rest s => (∀ y ∈ rest, y.length ≤ 700) ∧ s = [.d (litD ns), .l xs1, .d (.int i), .no, .no, .no, .no, .no, .no]) ?_ ?_ ys _ ⟨hy, rfl⟩
        · rintro s ⟨_, rfl⟩
          exact hk3 _ ⟨_, rfl, hc1⟩
        · rintro y rest s k5 ⟨hy, rfl⟩ hk5
          have hb : y.length ≤ 1900 := Nat.le_trans (hy y List.mem_cons_self) (by decide)
          refine st_nm ?_
          unfold txD
          array_get_dec
          refine told_x hb fun fin => ?_
          array_get_dec
          refine e_due_x hb fun fin => ?_
          array_get_dec
          refine st_ne_due ?_
          array_get_dec
          exact hk5 _ ⟨fun z hz => hy z (List.mem_cons_of_mem _ hz), rfl⟩
    · array_get_dec
      refine st_ite (fun q => ?_) (fun q => ?_)
      · have hc' := hc
        obtain ⟨a, v, rfl, ha, hb⟩ := hc
        array_get_dec
        refine st_ite (fun q2 => ?_) (fun q2 => ?_)
        · array_get_dec
          exact hk _ ⟨_, rfl⟩
        · array_get_dec
          exact hk3 _ ⟨_, rfl, hc'⟩
      · array_get_dec
        exact hk3 _ ⟨_, rfl, hc⟩
end Lk55
open PySem PySem.W PySem.Calls PyProof.Rows
set_option maxHeartbeats 0 in
theorem PySem.Challenge.cw_hueshare_k55_texts_that_write_no_web_holds : PySem.Challenge.rw_hueshare_k55_texts_that_write_no_web.Holds := by
  w_on; o_law
  refine HandSHeadRun.head_any (r := OpenLaw.row PySem.Challenge.rw_hueshare_k55_texts_that_write_no_web) (q := view (OpenLaw.row PySem.Challenge.rw_hueshare_k55_texts_that_write_no_web).prog [42]) (H := Lk55.hk) (ob := Lk55.ob) (M := 9000) (loose := Lk55.nm) (d := HandSHeadRun.topDef (OpenLaw.row PySem.Challenge.rw_hueshare_k55_texts_that_write_no_web).prog 42) (kwd := []) Lk55.ob_eq
    (by kernel_rfl) (fun s => by kernel_rfl) Lk55.run (by kernel_rfl) (by kernel_rfl) (by kernel_rfl) (by rfl) (by first | assumption | decide +kernel) (by decide +kernel) ⟨rfl, rfl, rfl, rfl, rfl, by decide +kernel⟩ ?hw ?hc
  case hw => w_witness2
  case hc =>
    refine Hs.walk_ofBE (l := PySem.Challenge.rw_hueshare_k55_texts_that_write_no_web) (n := 63) (k := 9) (ms := [false]) (sem := Lk55.m_law) rfl (by decide) (by kernel_rfl) ⟨rfl, by decide, by decide⟩ ?F Lk55.law_holds
    intro w mg fa h Y G hmg0
    obtain ⟨K, KX, c, ce⟩ := Y
    have hmg : mg ("law" : PySem.Str) = some (.ref fa) := by
      have e : (HandSHeadRun.topDef (OpenLaw.row PySem.Challenge.rw_hueshare_k55_texts_that_write_no_web).prog 42).name = ("law" : PySem.Str) := by kernel_rfl
      rw [← e]
      exact hmg0
    obtain ⟨fd, hb, hF⟩ := Lk55.facts (P := (PySem.Challenge.rw_hueshare_k55_texts_that_write_no_web).prog) (w := w) KX G hmg c ce
    exact ⟨K, fd, KX, hb, hF⟩
