import PyProof.Rows.All
import Wide.All
import OpenK.AllK
import Wide.FinOn
import HandS.ForMost
import HandS.ForExc
import HandS.CallSlots
import HandS.Deep
import HandS.TupAny
import HandS.TupMul
import HandS.TupLe
import HandS.Wide
import HandS.SortInts
import HandS.SortRule
import HandS.Conv
import HandS.IsInst
import HandS.Style
import HandS.SortOrd
import HandS.More
import HandS.HeadHook2
import HandS.EndBits
import HandS.HeadEnd
import HandS.HeadHook1
import HandS.Head0
import HandS.Head1
import HandS.Head2
import HandS.ExcOwn
import HandS.Iter
import HandS.Zip
import HandS.Rev
import KE.GoesEnum
import PyProof.Rows.SortShellAny
import PyProof.ReprRoads
import HandS.ExcIs
import HandS.ExcValue
import PySem.Challenge.RW_hueshare_k51_deeds_of_a_sharing_refused
set_option Elab.async false
set_option linter.all false
set_option maxRecDepth 100000
set_option maxHeartbeats 4000000
set_option exponentiation.threshold 100000
namespace Hs
open PySem PySem.Spec PyProof.Rows L2
/-- how a def is looked at by names -/
abbrev dOf (x : Str) (st : Stmt) : He.DefD := ⟨(x, none), x, x, defArgs st, defBody st, defScope st, [], []⟩
def excB (K : PySem.W.Frag) (D : Addr) : Bool :=
  decide (PySem.W.findIn K (.ref D) "__getattribute__" = some (some (.builtin "BaseException.__getattribute__"))) && (decide (PySem.W.findIn K (.ref D) "__getattr__" = some none) && (decide (PySem.W.subIn K (.ref D) (.type "BaseException") = some true) && (PySem.W.hasDictIn K D &&
    (decide (PySem.W.findIn K (.ref D) "__class__" = some (some (.builtin "object.__class__"))) && (decide (PySem.W.specialIn K (.builtin "object.__class__") "__get__" = some (some (.builtin "getset_descriptor.__get__"))) && (decide (PySem.W.takesIn K (.builtin "object.__class__") = some true) &&
      decide (PySem.W.mroIn K D (.type "object") = some true)))))))
/-- what isinstance says of the errors of the classes named, asked for an own class, for a built-in one -/
inductive ExQ where
  | own (y : Str) (tb : List (Str × Bool))
  | ty (T : String) (tb : List (Str × Bool))
def ExQ.row (K : PySem.W.Frag) (cv : Value) (tb : List (Str × Bool)) : Bool := tb.all fun p => excB K (He.ga K p.1) && decide (PySem.W.kitOne K (.ref (He.ga K p.1)) cv = some p.2)
def ExQ.ok (K : PySem.W.Frag) : ExQ → Bool
  | .own y tb => ExQ.row K (.ref (He.ga K y)) tb
  | .ty T tb => ExQ.row K (.type T) tb
abbrev AlQ : Type := He.AlD × Bool
def obsQ (n : Nat) (fa : List He.Fa) (fn : List He.DefD) (exl : List ExQ) (g : Addr → Option Obj) : AlQ := (He.obsDG n fa fn g, exl.all fun e => e.ok (He.frG g (He.asD g n)))
def hookQ (n : Nat) (fa : List He.Fa) (fn : List He.DefD) (exl : List ExQ) : PySem.W.Hook where
  α := AlQ
  obs := fun s => obsQ n fa fn exl s.heap.get?
  val := fun _ => (He.valD fn, true)
  says := fun _ h => ∃ K : PySem.W.Frag, K.In h ∧ He.SaysD fa fn K ∧ (exl.all fun e => e.ok K) = true
  of := fun _ _ e => ⟨_, He.frG_in, congrArg Prod.fst e, congrArg Prod.snd e⟩
  keeps := fun _ _ _ ⟨K, hK, c⟩ k => ⟨K, PySem.W.Frag.In.keeps hK k, c⟩
theorem obsQ_eq {n : Nat} {fa : List He.Fa} {fn : List He.DefD} {exl : List ExQ} {g : Addr → Option Obj} {s : Shared} (h : ∀ a, g a = s.heap.get? a) : obsQ n fa fn exl g = (hookQ n fa fn exl).obs s := by
  have e : g = s.heap.get? := funext h
  rw [e] <;> rfl
abbrev mOf (c m q : Str) (st : Stmt) : He.DefD := ⟨(c, some m), m, q, defArgs st, defBody st, defScope st, [], []⟩
abbrev dOfA (g x : Str) (st : Stmt) : He.DefD := ⟨(g, none), x, x, defArgs st, defBody st, defScope st, [], []⟩
end Hs
namespace Lk51
open PySem PySem.Spec PyProof.Rows L2 Hs
def topS (i : Nat) : Stmt := PySem.Challenge.pw_hueshare_k51_deeds_of_a_sharing_refused.main.body.getD i (.Pass ⟨0, 0, 0, 0⟩)
abbrev s__law_e_stir : Stmt := topS 46
abbrev s__law_e_dip : Stmt := topS 47
abbrev s__law_e_web_of : Stmt := topS 48
abbrev s__law_e_web : Stmt := topS 49
abbrev s_is_whole : Stmt := topS 20
abbrev s_is_below : Stmt := topS 21
abbrev s_is_rising : Stmt := topS 23
abbrev s_is_tie : Stmt := topS 22
abbrev s_are_ties : Stmt := topS 24
abbrev s_is_web : Stmt := topS 25
abbrev s_need_web : Stmt := topS 26
abbrev s_full_from : Stmt := topS 31
abbrev s_all_places : Stmt := topS 27
abbrev s_rows_of : Stmt := topS 29
abbrev s_full_apart_in : Stmt := topS 32
abbrev s_Rows_init : Stmt := inClass (topS 34) 0
abbrev s_Rows_entering : Stmt := inClass (topS 34) 1
abbrev s_Rows_cleared : Stmt := inClass (topS 34) 4
abbrev s_Rows_turn : Stmt := inClass (topS 34) 5
abbrev s_Rows_bounds_more : Stmt := inClass (topS 34) 3
abbrev s_Rows_leaving : Stmt := inClass (topS 34) 2
abbrev s_Rows_finish : Stmt := inClass (topS 34) 6
abbrev s_divisor : Stmt := topS 12
abbrev s_lowest : Stmt := topS 13
abbrev s_Rows_share : Stmt := inClass (topS 34) 8
abbrev s_plus : Stmt := topS 14
abbrev s_sum_of_fractions : Stmt := topS 16
abbrev s_Rows_prices : Stmt := inClass (topS 34) 7
abbrev s_shares_in : Stmt := topS 35
abbrev s_Sharing_init : Stmt := inClass (topS 44) 0
abbrev s_Sharing_web : Stmt := inClass (topS 44) 7
abbrev s_Sharing_value : Stmt := inClass (topS 44) 8
abbrev s_Sharing_laying : Stmt := inClass (topS 44) 9
abbrev s_Sharing_again : Stmt := inClass (topS 44) 11
abbrev s__law_e_told : Stmt := topS 55
abbrev s__law_e_refused : Stmt := topS 54
abbrev s__law_e_kind : Stmt := topS 50
abbrev s_is_place : Stmt := topS 37
abbrev s_Sharing_need_pair : Stmt := inClass (topS 44) 2
abbrev s_tied_in : Stmt := topS 28
abbrev s_is_laid : Stmt := topS 39
abbrev s_sum_of_sharing : Stmt := topS 41
abbrev s_is_less : Stmt := topS 15
abbrev s_sum_at : Stmt := topS 40
abbrev s_still_good : Stmt := topS 43
abbrev s_Sharing_change : Stmt := inClass (topS 44) 1
abbrev s_Sharing_untie : Stmt := inClass (topS 44) 5
abbrev s_are_places : Stmt := topS 38
abbrev s_Sharing_put : Stmt := inClass (topS 44) 3
abbrev s_Sharing_drop : Stmt := inClass (topS 44) 6
abbrev s_Sharing_tie : Stmt := inClass (topS 44) 4
abbrev s__law_e_do : Stmt := topS 52
abbrev s__law_e_word : Stmt := topS 53
abbrev s__law_e_next : Stmt := topS 51
abbrev s_law : Stmt := topS 56
def fa0 : List He.Fa := [.glo "_law_e_stir", .glo "_law_e_dip", .glo "_law_e_web_of", .glo "_law_e_web", .glo "is_whole", .glo "is_below", .glo "is_rising", .glo "is_tie", .glo "are_ties", .glo "is_web", .glo "need_web", .glo "full_from", .glo "all_places", .glo "rows_of", .glo "full_apart_in", .glo "divisor", .glo "lowest", .glo "plus", .glo "sum_of_fractions", .glo "shares_in", .glo "_law_e_told", .glo "_law_e_refused", .glo "_law_e_kind", .glo "is_place", .glo "tied_in", .glo "is_laid", .glo "sum_of_sharing", .glo "is_less", .glo "sum_at", .glo "still_good"]
def fa1 : List He.Fa := [.glo "are_places", .glo "_law_e_do", .glo "_law_e_word", .glo "_law_e_next", .glo "law", .cls "Rows", .noat "Rows" "places", .noat "Rows" "many", .noat "Rows" "common", .noat "Rows" "rows", .noat "Rows" "below", .noat "Rows" "at_work", .meth "Rows" "cleared", .meth "Rows" "bounds_more", .meth "Rows" "entering", .meth "Rows" "turn", .meth "Rows" "leaving", .mkr "Rows", .glo "Rows", .meth "Rows" "finish", .meth "Rows" "share", .meth "Rows" "prices", .cls "Sharing", .noat "Sharing" "now", .noat "Sharing" "count", .noat "Sharing" "costs", .noat "Sharing" "laid", .noat "Sharing" "least", .meth "Sharing" "again", .meth "Sharing" "laying"]
def fa2 : List He.Fa := [.meth "Sharing" "value", .meth "Sharing" "web", .meth "Sharing" "need_pair", .meth "Sharing" "change", .meth "Sharing" "put", .meth "Sharing" "drop", .meth "Sharing" "tie", .meth "Sharing" "untie", .mkr "Sharing", .glo "Sharing", .glo "NoWeb", .exc "NoWeb", .glo "NoPlace", .exc "NoPlace", .glo "NoTie", .exc "NoTie", .glo "TooMany", .exc "TooMany", .glo "NoNumber", .glo "NoFold", .glo "NoText", .glo "NoRow", .glo "NoWants", .glo "HueError", .exm "NoWeb" "HueError" true, .exm "NoPlace" "HueError" true, .exm "NoTie" "HueError" true, .exm "TooMany" "HueError" true, .int "MOST_PLACES" 10, .free "len"]
def fa3 : List He.Fa := [.free "range", .free "tuple", .free "isinstance", .free "int", .free "bool", .free "all", .free "enumerate", .free "list", .free "sorted", .free "zip", .free "abs", .free "ValueError", .free "max", .free "min", .free "any"]
def fa : List He.Fa := fa0 ++ fa1 ++ fa2 ++ fa3
def exl0 : List ExQ := [(.own "NoPlace" [("NoWeb", false), ("NoPlace", true), ("NoTie", false), ("TooMany", false)]), (.own "NoNumber" [("NoWeb", false), ("NoPlace", false), ("NoTie", false), ("TooMany", false)]), (.own "NoFold" [("NoWeb", false), ("NoPlace", false), ("NoTie", false), ("TooMany", false)]), (.own "NoTie" [("NoWeb", false), ("NoPlace", false), ("NoTie", true), ("TooMany", false)]), (.own "NoText" [("NoWeb", false), ("NoPlace", false), ("NoTie", false), ("TooMany", false)]), (.own "NoRow" [("NoWeb", false), ("NoPlace", false), ("NoTie", false), ("TooMany", false)]), (.own "TooMany" [("NoWeb", false), ("NoPlace", false), ("NoTie", false), ("TooMany", true)]), (.own "NoWeb" [("NoWeb", true), ("NoPlace", false), ("NoTie", false), ("TooMany", false)]), (.own "NoWants" [("NoWeb", false), ("NoPlace", false), ("NoTie", false), ("TooMany", false)]), (.ty "ValueError" [("NoWeb", true), ("NoPlace", true), ("NoTie", true), ("TooMany", true)])]
def exl : List ExQ := exl0
def fn0 : List He.DefD := [dOf "_law_e_stir" s__law_e_stir, dOf "_law_e_dip" s__law_e_dip, dOf "_law_e_web_of" s__law_e_web_of, dOf "_law_e_web" s__law_e_web, dOf "is_whole" s_is_whole, dOf "is_below" s_is_below, dOf "is_rising" s_is_rising, dOf "is_tie" s_is_tie, dOf "are_ties" s_are_ties, dOf "is_web" s_is_web, dOf "need_web" s_need_web, dOf "full_from" s_full_from, dOf "all_places" s_all_places, dOf "rows_of" s_rows_of, dOf "full_apart_in" s_full_apart_in, mOf "Rows" "__init__" "Rows.__init__" s_Rows_init, mOf "Rows" "entering" "Rows.entering" s_Rows_entering, mOf "Rows" "cleared" "Rows.cleared" s_Rows_cleared, mOf "Rows" "turn" "Rows.turn" s_Rows_turn, mOf "Rows" "bounds_more" "Rows.bounds_more" s_Rows_bounds_more, mOf "Rows" "leaving" "Rows.leaving" s_Rows_leaving, mOf "Rows" "finish" "Rows.finish" s_Rows_finish, dOf "divisor" s_divisor, dOf "lowest" s_lowest, mOf "Rows" "share" "Rows.share" s_Rows_share, dOf "plus" s_plus, dOfA "sum_of_fractions" "sum_of" s_sum_of_fractions, mOf "Rows" "prices" "Rows.prices" s_Rows_prices, dOf "shares_in" s_shares_in, mOf "Sharing" "__init__" "Sharing.__init__" s_Sharing_init]
def fn1 : List He.DefD := [mOf "Sharing" "web" "Sharing.web" s_Sharing_web, mOf "Sharing" "value" "Sharing.value" s_Sharing_value, mOf "Sharing" "laying" "Sharing.laying" s_Sharing_laying, mOf "Sharing" "again" "Sharing.again" s_Sharing_again, dOf "_law_e_told" s__law_e_told, dOf "_law_e_refused" s__law_e_refused, dOf "_law_e_kind" s__law_e_kind, dOf "is_place" s_is_place, mOf "Sharing" "need_pair" "Sharing.need_pair" s_Sharing_need_pair, dOf "tied_in" s_tied_in, dOf "is_laid" s_is_laid, dOfA "sum_of_sharing" "sum_of" s_sum_of_sharing, dOf "is_less" s_is_less, dOf "sum_at" s_sum_at, dOf "still_good" s_still_good, mOf "Sharing" "change" "Sharing.change" s_Sharing_change, mOf "Sharing" "untie" "Sharing.untie" s_Sharing_untie, dOf "are_places" s_are_places, mOf "Sharing" "put" "Sharing.put" s_Sharing_put, mOf "Sharing" "drop" "Sharing.drop" s_Sharing_drop, mOf "Sharing" "tie" "Sharing.tie" s_Sharing_tie, dOf "_law_e_do" s__law_e_do, dOf "_law_e_word" s__law_e_word, dOf "_law_e_next" s__law_e_next, dOf "law" s_law]
def fn : List He.DefD := fn0 ++ fn1
def nm0 : List PySem.Str := ["HueError", "NoWeb", "NoPlace", "NoTie", "NoWants", "NoFold", "NoNumber", "TooMany", "NoText", "NoRow", "divisor", "lowest", "plus", "is_less", "sum_of", "sum_of_fractions", "is_whole", "is_below", "is_tie", "is_rising", "are_ties", "is_web", "need_web", "all_places", "tied_in", "rows_of", "full_from", "full_apart_in", "Rows", "shares_in"]
def nm1 : List PySem.Str := ["is_place", "are_places", "is_laid", "sum_at", "sum_of_sharing", "still_good", "Sharing", "_law_e_stir", "_law_e_dip", "_law_e_web_of", "_law_e_web", "_law_e_kind", "_law_e_next", "_law_e_do", "_law_e_word", "_law_e_refused", "_law_e_told", "MOST_PLACES"]
def nm : List PySem.Str := nm0 ++ nm1
abbrev Rw : PySem.W.OpenRow := PySem.W.OpenLaw.row PySem.Challenge.rw_hueshare_k51_deeds_of_a_sharing_refused
abbrev hk : PySem.W.Hook := hookQ 5 fa fn exl
def ob (s : PySem.W.SharedT) : AlQ := obsQ 5 fa fn exl (HandSHeadRun.getT s)
theorem ob_eq (s : PySem.W.SharedT) : ob s = hk.obs s.abs := obsQ_eq (HandSHeadRun.getT_eq s)
set_option maxHeartbeats 0 in
theorem run (w : World) : HandSHeadRun.RunEq Rw (PySem.W.view Rw.prog [56]) hk ob 9000 nm w := by
  intro os
  kernel_rfl
end Lk51
namespace Hs
open PySem PySem.Spec PyProof.Rows L2
abbrev D := PyData
abbrev St := L2.St
/-- what a slot holds: nothing known; a value that nobody changes; a list (rows of lists, a dict) that this slot alone holds; an object of a class with its fields -/
inductive PV where
  | d (x : D) | l (xs : List D) | dc (kvs : List (D × D))
inductive SV where
  | no | d (x : D) | l (xs : List D) | ll (xss : List (List D)) | dc (kvs : List (D × D)) | ob (c : Str) (fs : List (Str × PV)) | tp (ws : List PV)
/-- what an expression gives: a value; something new; what a slot holds -/
inductive R where
  | d (x : D) | own (v : SV) | top (i : Nat)
abbrev S := List SV
def keyD : Key → D
  | .inl i => .int i
  | .inr x => .str x
def keysD (ks : List Key) : D := .tuple (ks.map keyD)
/-- a list of ints that may be the text's own (nobody changes it): told by a dict of one key that no dict has -/
def litD (ns : List Int) : D := .dict [(.none, .list (ns.map .int))]
/-- a caught error of the class of that name -/
def excD (c : Str) : D := .dict [(.none, .str c)]
/-- an object of the class of that name that nobody changes -/
def obD (c : Str) (kvs : List (D × D)) : D := .dict ((.none, .bool true) :: (.none, .str c) :: kvs)
/-- an object's fields as a dict's entries -/
def obK (fs : List (Str × V)) : List (Key × V) := fs.map fun p => (.inr p.1, p.2)
/-- .. on the heap: an error of the class at C, at a -/
def ExV (C a : Addr) : HO := .ext fun h => ∃ (oe : Obj) (vs : Array Value), h.get? a = some oe ∧ Zc (.ref C) none oe ∧ oe.data = .fields vs
mutual
inductive Rp (K : PySem.W.Frag) (H : Hp) : V → PyData → Prop
  | non : Rp K H .non .none
  | bl (b : Bool) : Rp K H (.bl b) (.bool b)
  | int (i : Int) : Rp K H (.int i) (.int i)
  | str (x : Str) : Rp K H (.str x) (.str x)
  | lst {a : Addr} {xs : List V} {ds : List PyData} : Rd H a (.lst xs) → xs.length ≤ sizeLine → RpAll K H xs ds → Rp K H (.ref a) (.list ds)
  | tup {a : Addr} {xs : List V} {ds : List PyData} : H a = some (.tup xs) → xs.length ≤ sizeLine → RpAll K H xs ds → Rp K H (.ref a) (.tuple ds)
  | dcK {a : Addr} {ks : List (Key × V)} {kvs : List (PyData × PyData)} : Rd H a (.dK ks) → RpK K H ks kvs → Rp K H (.ref a) (.dict kvs)
  | dcT {a : Addr} {ks : List (List Key × V)} {kvs : List (PyData × PyData)} : H a = some (.dT ks) → RpT K H ks kvs → Rp K H (.ref a) (.dict ((.none, .none) :: kvs))
  | lit {a : Addr} {ns : List Int} : SqL K H a (ns.map V.int) → ns.length ≤ sizeLine → Rp K H (.ref a) (litD ns)
  | exc {a : Addr} {c : Str} : H a = some (ExV (He.ga K c) a) → Rp K H (.ref a) (excD c)
  | obj {a dx : Addr} {c : Str} {fs : List (Str × V)} {kvs : List (PyData × PyData)} : H a = some (.ins (He.ga K c) dx fs) → H dx = some (.own a) → RpK K H (obK fs) kvs → Rp K H (.ref a) (.dict ((.none, .bool true) :: (.none, .str c) :: kvs))
inductive RpAll (K : PySem.W.Frag) (H : Hp) : List V → List PyData → Prop
  | nil : RpAll K H [] []
  | cons {v : V} {vs : List V} {d : PyData} {ds : List PyData} : Rp K H v d → RpAll K H vs ds → RpAll K H (v :: vs) (d :: ds)
inductive RpK (K : PySem.W.Frag) (H : Hp) : List (Key × V) → List (PyData × PyData) → Prop
  | nil : RpK K H [] []
  | cons {k : Key} {v : V} {ks : List (Key × V)} {d : PyData} {kvs : List (PyData × PyData)} : Rp K H v d → RpK K H ks kvs → RpK K H ((k, v) :: ks) ((keyD k, d) :: kvs)
inductive RpT (K : PySem.W.Frag) (H : Hp) : List (List Key × V) → List (PyData × PyData) → Prop
  | nil : RpT K H [] []
  | cons {k : List Key} {v : V} {ks : List (List Key × V)} {d : PyData} {kvs : List (PyData × PyData)} : Rp K H v d → RpT K H ks kvs → RpT K H ((k, v) :: ks) ((keysD k, d) :: kvs)
end
theorem same_sqT {K : PySem.W.Frag} {H H' : Hp} {a : Addr} {xs : List V} (e : Same H H') (h : SqT K H a xs) : SqT K H' a xs := by
  rcases h with (h | ⟨o, h⟩) | h
  · exact .inl (.inl (e _ _ h))
  · exact .inl (.inr ⟨o, e _ _ h⟩)
  · exact .inr h
theorem tupSq {K : PySem.W.Frag} {H : Hp} {a : Addr} {xs : List V} (h : H a = some (.tup xs)) : SqT K H a xs := .inl (.inl h)
theorem same_rd {H H' : Hp} {a : Addr} {u : HO} (e : Same H H') (h : Rd H a u) : Rd H' a u := by
  rcases h with h | ⟨o, h⟩
  · exact .inl (e _ _ h)
  · exact .inr ⟨o, e _ _ h⟩
section
variable {K : PySem.W.Frag} {H H' : Hp}
mutual
theorem Rp.mono (e : Same H H') : ∀ (d : PyData) (v : V), Rp K H v d → Rp K H' v d
  | .none, _, .non => .non
  | .bool _, _, .bl b => .bl b
  | .int _, _, .int i => .int i
  | .str _, _, .str x => .str x
  | .list ds, _, .lst h z a => .lst (same_rd e h) z (RpAll.mono e ds _ a)
  | .tuple ds, _, .tup h z a => .tup (e _ _ h) z (RpAll.mono e ds _ a)
  | .dict kvs, _, .dcK h a => .dcK (same_rd e h) (RpK.mono e kvs _ a)
  | .dict ((.none, .none) :: kvs), _, .dcT h a => .dcT (e _ _ h) (RpT.mono e kvs _ a)
  | _, _, .lit h z => .lit (e.seq h) z
  | _, _, .exc h => .exc (e _ _ h)
  | .dict ((.none, .bool true) :: (.none, .str _) :: kvs), _, .obj h1 h2 a => .obj (e _ _ h1) (e _ _ h2) (RpK.mono e kvs _ a)
theorem RpAll.mono (e : Same H H') : ∀ (ds : List PyData) (vs : List V), RpAll K H vs ds → RpAll K H' vs ds
  | [], _, .nil => .nil
  | d :: ds, _, .cons h a => .cons (Rp.mono e d _ h) (RpAll.mono e ds _ a)
theorem RpK.mono (e : Same H H') : ∀ (kvs : List (PyData × PyData)) (ks : List (Key × V)), RpK K H ks kvs → RpK K H' ks kvs
  | [], _, .nil => .nil
  | (_, d) :: kvs, _, .cons h a => .cons (Rp.mono e d _ h) (RpK.mono e kvs _ a)
theorem RpT.mono (e : Same H H') : ∀ (kvs : List (PyData × PyData)) (ks : List (List Key × V)), RpT K H ks kvs → RpT K H' ks kvs
  | [], _, .nil => .nil
  | (_, d) :: kvs, _, .cons h a => .cons (Rp.mono e d _ h) (RpT.mono e kvs _ a)
end
theorem Rp.same {v : V} {d : D} (r : Rp K H v d) (e : Same H H') : Rp K H' v d := Rp.mono e d v r
theorem RpAll.same {vs : List V} {ds : List D} (r : RpAll K H vs ds) (e : Same H H') : RpAll K H' vs ds := RpAll.mono e ds vs r
theorem RpK.same {ks : List (Key × V)} {kvs : List (D × D)} (r : RpK K H ks kvs) (e : Same H H') : RpK K H' ks kvs := RpK.mono e kvs ks r
theorem RpT.same {ks : List (List Key × V)} {kvs : List (D × D)} (r : RpT K H ks kvs) (e : Same H H') : RpT K H' ks kvs := RpT.mono e kvs ks r
theorem RpAll.length : ∀ {vs : List V} {ds : List D}, RpAll K H vs ds → vs.length = ds.length
  | _, _, .nil => rfl
  | _, _, .cons _ a => congrArg (· + 1) (RpAll.length a)
theorem RpAll.append : ∀ {vs ws : List V} {ds es : List D}, RpAll K H vs ds → RpAll K H ws es → RpAll K H (vs ++ ws) (ds ++ es)
  | _, _, _, _, .nil, b => b
  | _, _, _, _, .cons h a, b => .cons h (RpAll.append a b)
theorem RpAll.get : ∀ {vs : List V} {ds : List D} {i : Nat} {d : D}, RpAll K H vs ds → ds[i]? = some d → ∃ v, vs[i]? = some v ∧ Rp K H v d
  | _, _, _, _, .nil, e => by simp at e
  | _, _, 0, _, .cons h _, e => by
    cases e
    exact ⟨_, rfl, h⟩
  | _, _, i + 1, _, .cons _ a, e => RpAll.get (i := i) a e
theorem RpAll.getV : ∀ {vs : List V} {ds : List D} {i : Nat} {v : V}, RpAll K H vs ds → vs[i]? = some v → ∃ d, ds[i]? = some d ∧ Rp K H v d
  | _, _, _, _, .nil, e => by simp at e
  | _, _, 0, _, .cons h _, e => by
    cases e
    exact ⟨_, rfl, h⟩
  | _, _, i + 1, _, .cons _ a, e => RpAll.getV (i := i) a e
theorem RpAll.take : ∀ {vs : List V} {ds : List D} (n : Nat), RpAll K H vs ds → RpAll K H (vs.take n) (ds.take n)
  | _, _, 0, _ => .nil
  | _, _, _ + 1, .nil => .nil
  | _, _, n + 1, .cons h a => .cons h (RpAll.take n a)
theorem RpAll.drop : ∀ {vs : List V} {ds : List D} (n : Nat), RpAll K H vs ds → RpAll K H (vs.drop n) (ds.drop n)
  | _, _, 0, a => a
  | _, _, _ + 1, .nil => .nil
  | _, _, n + 1, .cons _ a => RpAll.drop n a
theorem RpAll.set {v : V} {d : D} (r : Rp K H v d) : ∀ {vs : List V} {ds : List D} (i : Nat), RpAll K H vs ds → RpAll K H (vs.set i v) (ds.set i d)
  | _, _, _, .nil => .nil
  | _, _, 0, .cons _ a => .cons r a
  | _, _, i + 1, .cons h a => .cons h (RpAll.set r i a)
theorem RpAll.ints : ∀ {vs : List V} {ns : List Int}, RpAll K H vs (ns.map PyData.int) → vs = ns.map V.int
  | _, [], .nil => rfl
  | _, n :: ns, .cons (.int _) a => by rw [RpAll.ints a]; rfl
theorem RpAll.of_ints : ∀ ns : List Int, RpAll K H (ns.map V.int) (ns.map PyData.int)
  | [] => .nil
  | n :: ns => .cons (.int n) (RpAll.of_ints ns)
theorem RpAll.bools : ∀ {vs : List V} {ns : List Bool}, RpAll K H vs (ns.map PyData.bool) → vs = ns.map V.bl
  | _, [], .nil => rfl
  | _, n :: ns, .cons (.bl _) a => by rw [RpAll.bools a]; rfl
end
/-- rows of lists, each held by no other -/
inductive LL (K : PySem.W.Frag) (Z H : Hp) : List Addr → List (List D) → Prop
  | nil : LL K Z H [] []
  | cons {q : Addr} {vs : List V} {qs : List Addr} {xs : List D} {xss : List (List D)} : H q = some (.lst vs) → vs.length ≤ sizeLine → RpAll K Z vs xs → LL K Z H qs xss → LL K Z H (q :: qs) (xs :: xss)
def DcAt (K : PySem.W.Frag) (Z H : Hp) (p : Addr) (kvs : List (D × D)) : Prop :=
  (∃ ks, H p = some (.dK ks) ∧ RpK K Z ks kvs) ∨ ∃ ks kvs', kvs = (.none, .none) :: kvs' ∧ H p = some (.dT ks) ∧ RpT K Z ks kvs'
/-- the parts of a tuple that one slot alone holds -/
def PartAt (K : PySem.W.Frag) (Z H : Hp) (v : V) : PV → List Addr → Prop
  | .d x, F => F = [] ∧ Rp K Z v x
  | .l xs, F => ∃ p vs, v = .ref p ∧ F = [p] ∧ H p = some (.lst vs) ∧ vs.length ≤ sizeLine ∧ RpAll K Z vs xs
  | .dc kvs, F => ∃ p, v = .ref p ∧ F = [p] ∧ DcAt K Z H p kvs
inductive TpAt (K : PySem.W.Frag) (Z H : Hp) : List V → List PV → List Addr → Prop
  | nil : TpAt K Z H [] [] []
  | cons {v : V} {w : PV} {F G : List Addr} {vs : List V} {ws : List PV} : PartAt K Z H v w F → TpAt K Z H vs ws G → TpAt K Z H (v :: vs) (w :: ws) (F ++ G)
def PV.asD : PV → D
  | .d x => x
  | .l xs => .list xs
  | .dc kvs => .dict kvs
/-- how a slot's content stands; F: the addresses that it alone holds -/
def SlotAt (K : PySem.W.Frag) (Z H : Hp) (v : Option V) : SV → List Addr → Prop
  | .no, F => F = []
  | .d x, F => F = [] ∧ ∃ u, v = some u ∧ Rp K Z u x
  | .l xs, F => ∃ p vs, v = some (.ref p) ∧ F = [p] ∧ H p = some (.lst vs) ∧ vs.length ≤ sizeLine ∧ RpAll K Z vs xs
  | .ll xss, F => ∃ p qs, v = some (.ref p) ∧ F = p :: qs ∧ H p = some (.lst (qs.map V.ref)) ∧ qs.length ≤ sizeLine ∧ LL K Z H qs xss
  | .dc kvs, F => ∃ p, v = some (.ref p) ∧ F = [p] ∧ DcAt K Z H p kvs
  | .ob c fs, F => ∃ p dx vs G, v = some (.ref p) ∧ F = p :: dx :: G ∧ H p = some (.ins (He.ga K c) dx ((fs.map (·.1)).zip vs)) ∧ H dx = some (.own p) ∧ TpAt K Z H vs (fs.map (·.2)) G
  | .tp ws, F => ∃ p vs, v = some (.ref p) ∧ Z p = some (.tup vs) ∧ vs.length ≤ sizeLine ∧ TpAt K Z H vs ws F
section
variable {K : PySem.W.Frag} {Z Z' H H' : Hp}
theorem LL.mono (e : Same Z Z') : ∀ {qs : List Addr} {xss : List (List D)}, (∀ a ∈ qs, ∀ o, H a = some o → H' a = some o) → LL K Z H qs xss → LL K Z' H' qs xss
  | _, _, _, .nil => .nil
  | _, _, k, .cons h z a r => .cons (k _ List.mem_cons_self _ h) z (a.same e) (LL.mono e (fun b hb => k b (List.mem_cons_of_mem _ hb)) r)
theorem DcAt.mono {p : Addr} {kvs : List (D × D)} (e : Same Z Z') (kp : ∀ o, H p = some o → H' p = some o) (h : DcAt K Z H p kvs) : DcAt K Z' H' p kvs := by
  rcases h with ⟨ks, e1, r⟩ | ⟨ks, kvs', e0, e1, r⟩
  · exact .inl ⟨ks, kp _ e1, r.same e⟩
  · exact .inr ⟨ks, kvs', e0, kp _ e1, r.same e⟩
theorem DcAt.there {p : Addr} {kvs : List (D × D)} (h : DcAt K Z H p kvs) : H p ≠ none := by
  rcases h with ⟨ks, e1, r⟩ | ⟨ks, kvs', e0, e1, r⟩ <;> (rw [e1]; exact fun z => nomatch z)
theorem PartAt.mono {v : V} {w : PV} {F : List Addr} (e : Same Z Z') (k : ∀ a ∈ F, ∀ o, H a = some o → H' a = some o) (h : PartAt K Z H v w F) : PartAt K Z' H' v w F := by
  cases w with
  | d x => exact ⟨h.1, h.2.same e⟩
  | l xs =>
    obtain ⟨p, vs, h1, h2, h3, h4, h5⟩ := h
    exact ⟨p, vs, h1, h2, k p (by rw [h2]; exact List.mem_cons_self) _ h3, h4, h5.same e⟩
  | dc kvs =>
    obtain ⟨p, h1, h2, h3⟩ := h
    exact ⟨p, h1, h2, h3.mono e (k p (by rw [h2]; exact List.mem_cons_self))⟩
theorem PartAt.there {v : V} {w : PV} {F : List Addr} (h : PartAt K Z H v w F) : ∀ a ∈ F, H a ≠ none := by
  intro a ha
  cases w with
  | d x => rw [h.1] at ha; cases ha
  | l xs =>
    obtain ⟨p, vs, h1, h2, h3, h4, h5⟩ := h
    rw [h2] at ha
    obtain rfl : a = p := by simpa using ha
    rw [h3]; exact fun z => nomatch z
  | dc kvs =>
    obtain ⟨p, h1, h2, h3⟩ := h
    rw [h2] at ha
    obtain rfl : a = p := by simpa using ha
    exact h3.there
theorem TpAt.mono (e : Same Z Z') : ∀ {vs : List V} {ws : List PV} {F : List Addr}, (∀ a ∈ F, ∀ o, H a = some o → H' a = some o) → TpAt K Z H vs ws F → TpAt K Z' H' vs ws F
  | _, _, _, _, .nil => .nil
  | _, _, _, k, .cons h r => .cons (h.mono e fun a ha => k a (List.mem_append.mpr (.inl ha))) (TpAt.mono e (fun a ha => k a (List.mem_append.mpr (.inr ha))) r)
theorem TpAt.there {vs : List V} {ws : List PV} {F : List Addr} (h : TpAt K Z H vs ws F) : ∀ a ∈ F, H a ≠ none := by
  induction h with
  | nil => intro a ha; cases ha
  | cons h r ih =>
    intro a ha
    rcases List.mem_append.mp ha with ha | ha
    · exact h.there a ha
    · exact ih a ha
theorem TpAt.length {vs : List V} {ws : List PV} {F : List Addr} (h : TpAt K Z H vs ws F) : vs.length = ws.length := by
  induction h with
  | nil => rfl
  | cons h r ih => rw [List.length_cons, List.length_cons, ih]
theorem SlotAt.mono {v : Option V} {sv : SV} {F : List Addr} (e : Same Z Z') (k : ∀ a ∈ F, ∀ o, H a = some o → H' a = some o) (h : SlotAt K Z H v sv F) : SlotAt K Z' H' v sv F := by
  cases sv with
  | no => exact h
  | d x =>
    obtain ⟨h1, u, h2, r⟩ := h
    exact ⟨h1, u, h2, r.same e⟩
  | l xs =>
    obtain ⟨p, vs, h1, h2, h3, h4, h5⟩ := h
    exact ⟨p, vs, h1, h2, k p (by rw [h2]; exact List.mem_cons_self) _ h3, h4, h5.same e⟩
  | ll xss =>
    obtain ⟨p, qs, h1, h2, h3, h4, h5⟩ := h
    exact ⟨p, qs, h1, h2, k p (by rw [h2]; exact List.mem_cons_self) _ h3, h4, h5.mono e fun a ha => k a (by rw [h2]; exact List.mem_cons_of_mem _ ha)⟩
  | dc kvs =>
    obtain ⟨p, h1, h2, h3⟩ := h
    exact ⟨p, h1, h2, h3.mono e (k p (by rw [h2]; exact List.mem_cons_self))⟩
  | ob c fs =>
    obtain ⟨p, dx, vs, G, h1, h2, h3, h4, h5⟩ := h
    exact ⟨p, dx, vs, G, h1, h2, k p (by rw [h2]; simp) _ h3, k dx (by rw [h2]; simp) _ h4, h5.mono e fun a ha => k a (by rw [h2]; simp [ha])⟩
  | tp ws =>
    obtain ⟨p, vs, h1, h3, h4, h5⟩ := h
    exact ⟨p, vs, h1, e _ _ h3, h4, h5.mono e k⟩
theorem SlotAt.there {v : Option V} {sv : SV} {F : List Addr} (h : SlotAt K Z H v sv F) : ∀ a ∈ F, H a ≠ none := by
  have LLt : ∀ {qs : List Addr} {xss : List (List D)}, LL K Z H qs xss → ∀ a ∈ qs, H a ≠ none := by
    intro qs xss r
    induction r with
    | nil => intro a ha; cases ha
    | cons h z a r ih =>
      intro b hb
      rcases List.mem_cons.mp hb with rfl | hb
      · rw [h]; exact fun z => nomatch z
      · exact ih b hb
  intro a ha
  cases sv with
  | no => rw [show F = [] from h] at ha; cases ha
  | d x => rw [h.1] at ha; cases ha
  | l xs =>
    obtain ⟨p, vs, h1, h2, h3, h4, h5⟩ := h
    rw [h2] at ha
    obtain rfl : a = p := by simpa using ha
    rw [h3]; exact fun z => nomatch z
  | ll xss =>
    obtain ⟨p, qs, h1, h2, h3, h4, h5⟩ := h
    rw [h2] at ha
    rcases List.mem_cons.mp ha with rfl | ha
    · rw [h3]; exact fun z => nomatch z
    · exact LLt h5 a ha
  | dc kvs =>
    obtain ⟨p, h1, h2, h3⟩ := h
    rw [h2] at ha
    obtain rfl : a = p := by simpa using ha
    exact h3.there
  | ob c fs =>
    obtain ⟨p, dx, vs, G, h1, h2, h3, h4, h5⟩ := h
    rw [h2] at ha
    rcases List.mem_cons.mp ha with rfl | ha
    · rw [h3]; exact fun z => nomatch z
    · rcases List.mem_cons.mp ha with rfl | ha
      · rw [h4]; exact fun z => nomatch z
      · exact h5.there a ha
  | tp ws =>
    obtain ⟨p, vs, h1, h3, h4, h5⟩ := h
    exact h5.there a ha
theorem DcAt.nt {p : Addr} {kvs : List (D × D)} (h : DcAt K Z H p kvs) : ∀ vs, H p ≠ some (.tup vs) := by
  intro vs
  rcases h with ⟨ks, e1, r⟩ | ⟨ks, kvs', e0, e1, r⟩ <;> (rw [e1]; exact fun z => nomatch z)
theorem PartAt.nt {v : V} {w : PV} {F : List Addr} (h : PartAt K Z H v w F) : ∀ a ∈ F, ∀ vs, H a ≠ some (.tup vs) := by
  intro a ha us
  cases w with
  | d x => rw [h.1] at ha; cases ha
  | l xs =>
    obtain ⟨p, vs, h1, h2, h3, h4, h5⟩ := h
    rw [h2] at ha
    obtain rfl : a = p := by simpa using ha
    rw [h3]; exact fun z => nomatch z
  | dc kvs =>
    obtain ⟨p, h1, h2, h3⟩ := h
    rw [h2] at ha
    obtain rfl : a = p := by simpa using ha
    exact h3.nt us
theorem TpAt.nt {vs : List V} {ws : List PV} {F : List Addr} (h : TpAt K Z H vs ws F) : ∀ a ∈ F, ∀ vs, H a ≠ some (.tup vs) := by
  induction h with
  | nil => intro a ha; cases ha
  | cons h r ih =>
    intro a ha
    rcases List.mem_append.mp ha with ha | ha
    · exact h.nt a ha
    · exact ih a ha
theorem SlotAt.nt {v : Option V} {sv : SV} {F : List Addr} (h : SlotAt K Z H v sv F) : ∀ a ∈ F, ∀ vs, H a ≠ some (.tup vs) := by
  have LLt : ∀ {qs : List Addr} {xss : List (List D)}, LL K Z H qs xss → ∀ a ∈ qs, ∀ vs, H a ≠ some (.tup vs) := by
    intro qs xss r
    induction r with
    | nil => intro a ha; cases ha
    | cons h z a r ih =>
      intro b hb us
      rcases List.mem_cons.mp hb with rfl | hb
      · rw [h]; exact fun z => nomatch z
      · exact ih b hb us
  intro a ha us
  cases sv with
  | no => rw [show F = [] from h] at ha; cases ha
  | d x => rw [h.1] at ha; cases ha
  | l xs =>
    obtain ⟨p, vs, h1, h2, h3, h4, h5⟩ := h
    rw [h2] at ha
    obtain rfl : a = p := by simpa using ha
    rw [h3]; exact fun z => nomatch z
  | ll xss =>
    obtain ⟨p, qs, h1, h2, h3, h4, h5⟩ := h
    rw [h2] at ha
    rcases List.mem_cons.mp ha with rfl | ha
    · rw [h3]; exact fun z => nomatch z
    · exact LLt h5 a ha us
  | dc kvs =>
    obtain ⟨p, h1, h2, h3⟩ := h
    rw [h2] at ha
    obtain rfl : a = p := by simpa using ha
    exact h3.nt us
  | ob c fs =>
    obtain ⟨p, dx, vs, G, h1, h2, h3, h4, h5⟩ := h
    rw [h2] at ha
    rcases List.mem_cons.mp ha with rfl | ha
    · rw [h3]; exact fun z => nomatch z
    · rcases List.mem_cons.mp ha with rfl | ha
      · rw [h4]; exact fun z => nomatch z
      · exact h5.nt a ha us
  | tp ws =>
    obtain ⟨p, vs, h1, h3, h4, h5⟩ := h
    exact h5.nt a ha us
end
/-- the state: Z what nobody changes, Y what others hold, H all; σ the slots' values, s what they hold -/
structure OwnF (K : PySem.W.Frag) (Z Y H : Hp) (σ : St) (s : S) (F : Nat → List Addr) : Prop where
  at_ : ∀ i, SlotAt K Z H (σ.getD i none) (s.getD i .no) (F i)
  nd : ∀ i, (F i).Nodup
  dj : ∀ i j a, a ∈ F i → a ∈ F j → i = j
  fr : ∀ i a, a ∈ F i → Z a = none ∧ Y a = none
structure Rel (K : PySem.W.Frag) (Z Y H : Hp) (σ : St) (s : S) : Prop where
  zh : Same Z H
  yh : Same Y H
  zy : ∀ a, Z a ≠ none → Y a = none
  yt : ∀ a vs, Y a ≠ some (.tup vs)
  len : σ.length = s.length
  own : ∃ F, OwnF K Z Y H σ s F
section
variable {K : PySem.W.Frag} {Z Z' Y Y' H H' : Hp} {σ σ' : St} {s s' : S}
/-- the slots put otherwise, some forgotten -/
theorem Rel.re (r : Rel K Z Y H σ s) (f : Nat → Option Nat) (hl : σ'.length = s'.length)
    (h : ∀ k, match f k with | none => s'.getD k .no = .no ∨ ∃ x v, s'.getD k .no = .d x ∧ σ'.getD k none = some v ∧ Rp K Z v x | some j => s'.getD k .no = s.getD j .no ∧ σ'.getD k none = σ.getD j none)
    (inj : ∀ k k' j, f k = some j → f k' = some j → k = k') : Rel K Z Y H σ' s' := by
  obtain ⟨F, o⟩ := r.own
  refine ⟨r.zh, r.yh, r.zy, r.yt, hl, fun k => match f k with | none => [] | some j => F j, fun k => ?_, fun k => ?_, fun k k' a ha ha' => ?_, fun k a ha => ?_⟩
  · have hk := h k
    cases e : f k with
    | none =>
      rw [e] at hk
      rcases hk with hk | ⟨x, v, h1, h2, h3⟩
      · rw [hk]; exact rfl
      · rw [h1]; exact ⟨rfl, v, h2, h3⟩
    | some j =>
      rw [e] at hk
      rw [hk.1, hk.2]
      exact o.at_ j
  · cases e : f k with
    | none => exact .nil
    | some j => exact o.nd j
  · cases e : f k with
    | none => rw [e] at ha; cases ha
    | some j =>
      rw [e] at ha
      cases e' : f k' with
      | none => rw [e'] at ha'; cases ha'
      | some j' =>
        rw [e'] at ha'
        have := o.dj j j' a ha ha'
        subst this
        exact inj k k' j e e'
  · cases e : f k with
    | none => rw [e] at ha; cases ha
    | some j =>
      rw [e] at ha
      exact o.fr j a ha
theorem getD_app_lt {α : Type} {l r : List α} {i : Nat} {d : α} (h : i < l.length) : (l ++ r).getD i d = l.getD i d := by
  rw [List.getD_eq_getElem?_getD, List.getD_eq_getElem?_getD, List.getElem?_append_left h]
theorem getD_app_ge {α : Type} {l r : List α} {i : Nat} {d : α} (h : l.length ≤ i) : (l ++ r).getD i d = r.getD (i - l.length) d := by
  rw [List.getD_eq_getElem?_getD, List.getD_eq_getElem?_getD, List.getElem?_append_right h]
theorem getD_out {α : Type} {l : List α} {i : Nat} {d : α} (h : l.length ≤ i) : l.getD i d = d := by
  rw [List.getD_eq_getElem?_getD, List.getElem?_eq_none h]; rfl
theorem getD_set_self {α : Type} {l : List α} {i : Nat} {d x : α} (h : i < l.length) : (l.set i x).getD i d = x := by
  rw [List.getD_eq_getElem?_getD, List.getElem?_set_self h]; rfl
theorem getD_set_ne {α : Type} {l : List α} {i j : Nat} {d x : α} (h : i ≠ j) : (l.set i x).getD j d = l.getD j d := by
  rw [List.getD_eq_getElem?_getD, List.getD_eq_getElem?_getD, List.getElem?_set_ne h]
/-- the last slots put aside: whatever happens to the others, they stand -/
theorem Rel.frame {ts : St} {us : S} (r : Rel K Z Y H (σ ++ ts) (s ++ us)) (hl : σ.length = s.length) :
    ∃ Y', Same Y Y' ∧ Rel K Z Y' H σ s ∧ (∀ Z1 H1 σ1 s1, Same Z Z1 → Rel K Z1 Y' H1 σ1 s1 → Rel K Z1 Y H1 (σ1 ++ ts) (s1 ++ us)) ∧ ∀ j, ∃ F, SlotAt K Z Y' (ts.getD j none) (us.getD j .no) F := by
  classical
  obtain ⟨F, o⟩ := r.own
  have hl2 : ts.length = us.length := by
    have := r.len
    rw [List.length_append, List.length_append] at this
    omega
  -- what the last slots hold
  refine ⟨fun a => if ∃ i, σ.length ≤ i ∧ a ∈ F i then H a else Y a, fun a q e => ?_, ⟨r.zh, fun a q e => ?_, fun a hz => ?_, fun a vs => ?_, hl, fun i => if i < σ.length then F i else [], fun i => ?_, fun i => ?_, fun i j a ha ha' => ?_, fun i a ha => ?_⟩, ?_⟩
  · show (if _ then _ else _) = _
    split
    · rename_i hc
      obtain ⟨i, _, hi⟩ := hc
      rw [(o.fr i a hi).2] at e; cases e
    · exact e
  · have e : (if ∃ i, σ.length ≤ i ∧ a ∈ F i then H a else Y a) = some q := e
    split at e
    · exact e
    · exact r.yh a q e
  · show (if _ then _ else _) = _
    split
    · rename_i hc
      obtain ⟨i, _, hi⟩ := hc
      exact absurd (o.fr i a hi).1 hz
    · exact r.zy a hz
  · show (if _ then _ else _) ≠ _
    split
    · rename_i hc
      obtain ⟨i, _, hi⟩ := hc
      exact (o.at_ i).nt a hi vs
    · exact r.yt a vs
  · by_cases hi : i < σ.length
    · rw [if_pos hi]
      have := o.at_ i
      rw [getD_app_lt hi, getD_app_lt (by omega)] at this
      exact this
    · rw [if_neg hi, getD_out (l := s) (by omega)]
      exact rfl
  · by_cases hi : i < σ.length
    · rw [if_pos hi]; exact o.nd i
    · rw [if_neg hi]; exact .nil
  · by_cases hi : i < σ.length
    · by_cases hj : j < σ.length
      · rw [if_pos hi] at ha; rw [if_pos hj] at ha'
        exact o.dj i j a ha ha'
      · rw [if_neg hj] at ha'; cases ha'
    · rw [if_neg hi] at ha; cases ha
  · by_cases hi : i < σ.length
    · rw [if_pos hi] at ha
      refine ⟨(o.fr i a ha).1, ?_⟩
      show (if _ then _ else _) = _
      rw [if_neg]
      · exact (o.fr i a ha).2
      · rintro ⟨j, hj, ha'⟩
        have := o.dj i j a ha ha'
        omega
    · rw [if_neg hi] at ha; cases ha
  refine ⟨?_, fun j => ⟨F (σ.length + j), ?_⟩⟩
  rotate_left
  · have q := o.at_ (σ.length + j)
    rw [getD_app_ge (by omega), getD_app_ge (by omega), ← hl, Nat.add_sub_cancel_left] at q
    exact q.mono (Same.refl _) fun a ha ob e => (if_pos ⟨_, Nat.le_add_right _ _, ha⟩ : (if ∃ i, σ.length ≤ i ∧ a ∈ F i then H a else Y a) = H a).trans e
  · intro Z1 H1 σ1 s1 hz r1
    obtain ⟨F1, o1⟩ := r1.own
    have yy : ∀ i, σ.length ≤ i → ∀ a ∈ F i, (if ∃ i, σ.length ≤ i ∧ a ∈ F i then H a else Y a) = H a := fun i hi a ha => if_pos ⟨i, hi, ha⟩
    refine ⟨r1.zh, fun a q e => r1.yh a q ?_, fun a hza => ?_, r.yt, by rw [List.length_append, List.length_append, r1.len, hl2], fun i => if i < σ1.length then F1 i else F (i - σ1.length + σ.length), fun i => ?_, fun i => ?_, fun i j a ha ha' => ?_, fun i a ha => ?_⟩
    · show (if _ then _ else _) = _
      split
      · rename_i hc
        obtain ⟨i, _, hi⟩ := hc
        rw [(o.fr i a hi).2] at e; cases e
      · exact e
    · have q := r1.zy a hza
      have q : (if ∃ i, σ.length ≤ i ∧ a ∈ F i then H a else Y a) = none := q
      split at q
      · rename_i hc
        obtain ⟨i, _, hi⟩ := hc
        exact (o.fr i a hi).2
      · exact q
    · by_cases hi : i < σ1.length
      · rw [if_pos hi, getD_app_lt hi, getD_app_lt (by have := r1.len; omega)]
        exact o1.at_ i
      · rw [if_neg hi, getD_app_ge (by omega), getD_app_ge (by have := r1.len; omega), ← r1.len]
        have q := o.at_ (i - σ1.length + σ.length)
        rw [getD_app_ge (by omega), getD_app_ge (by omega), ← hl, Nat.add_sub_cancel] at q
        refine q.mono hz fun a ha ob e => ?_
        refine r1.yh a ob ?_
        exact (yy _ (by omega) a ha).trans e
    · by_cases hi : i < σ1.length
      · rw [if_pos hi]; exact o1.nd i
      · rw [if_neg hi]; exact o.nd _
    · have cross : ∀ i k, a ∈ F1 i → σ.length ≤ k → a ∈ F k → False := fun i k h1 hk h2 => by
        have q := (o1.fr i a h1).2
        exact (o.at_ k).there a h2 ((yy k hk a h2).symm.trans q)
      by_cases hi : i < σ1.length
      · rw [if_pos hi] at ha
        by_cases hj : j < σ1.length
        · rw [if_pos hj] at ha'; exact o1.dj i j a ha ha'
        · rw [if_neg hj] at ha'; exact (cross i _ ha (by omega) ha').elim
      · rw [if_neg hi] at ha
        by_cases hj : j < σ1.length
        · rw [if_pos hj] at ha'; exact (cross j _ ha' (by omega) ha).elim
        · rw [if_neg hj] at ha'
          have := o.dj _ _ a ha ha'
          omega
    · by_cases hi : i < σ1.length
      · rw [if_pos hi] at ha
        have q := o1.fr i a ha
        refine ⟨q.1, ?_⟩
        have q2 : (if ∃ i, σ.length ≤ i ∧ a ∈ F i then H a else Y a) = none := q.2
        split at q2
        · rename_i hc
          obtain ⟨j, _, hj⟩ := hc
          exact (o.fr j a hj).2
        · exact q2
      · rw [if_neg hi] at ha
        refine ⟨?_, (o.fr _ a ha).2⟩
        cases e : Z1 a with
        | none => rfl
        | some q =>
          have := r1.zy a (by rw [e]; exact fun z => nomatch z)
          exact absurd ((yy _ (by omega) a ha).symm.trans this) ((o.at_ _).there a ha)
/-- the heap and what nobody changes have grown -/
theorem Rel.grow (r : Rel K Z Y H σ s) (hh : Same H H') (hz : Same Z Z') (zh : Same Z' H') (new : ∀ a, H a ≠ none → Z' a = Z a) : Rel K Z' Y H' σ s := by
  obtain ⟨F, o⟩ := r.own
  refine ⟨zh, fun a q e => hh a q (r.yh a q e), fun a hz' => ?_, r.yt, r.len, F, fun i => ?_, o.nd, o.dj, fun i a ha => ?_⟩
  · cases e : Y a with
    | none => rfl
    | some q =>
      have h1 : H a ≠ none := by rw [r.yh a q e]; exact fun z => nomatch z
      rw [new a h1] at hz'
      rw [r.zy a hz'] at e; cases e
  · exact (o.at_ i).mono hz fun a _ ob e => hh a ob e
  · have h1 := (o.at_ i).there a ha
    rw [new a h1]
    exact o.fr i a ha
theorem same_upd {H : Hp} {p : Addr} {o : HO} (h : H p = none) : Same H (upd H p o) := fun b x e => by
  rw [upd_ne (ne_of_none e h)]
  exact e
theorem Rel.fresh (r : Rel K Z Y H σ s) {p : Addr} (h : H p = none) : Z p = none := r.zh.free h
/-- a new tuple -/
theorem Rel.newZ (r : Rel K Z Y H σ s) {p : Addr} (o : HO) (h : H p = none) : Rel K (upd Z p o) Y (upd H p o) σ s :=
  r.grow (same_upd h) (same_upd (r.fresh h)) (fun a q e => by
    by_cases ha : a = p
    · subst ha; rw [upd_same] at e ⊢; exact e
    · rw [upd_ne ha] at e ⊢; exact r.zh a q e) fun a ha => upd_ne fun e => ha (e ▸ h)
/-- a new slot behind the others, of new things -/
theorem Rel.push (r : Rel K Z Y H σ s) {v : Option V} {sv : SV} {F : List Addr} (hh : Same H H') (hz : Same Z Z') (zh : Same Z' H') (new : ∀ a, H a ≠ none → Z' a = Z a) (h : SlotAt K Z' H' v sv F) (nd : F.Nodup)
    (fr : ∀ a ∈ F, H a = none ∧ Z' a = none) : Rel K Z' Y H' (σ ++ [v]) (s ++ [sv]) := by
  obtain ⟨G, o⟩ := r.own
  have g := r.grow hh hz zh new
  have hd : ∀ i, ∀ a ∈ F, a ∉ G i := fun i a ha hg => (o.at_ i).there a hg (fr a ha).1
  have o' : OwnF K Z' Y H' σ s G := ⟨fun i => (o.at_ i).mono hz fun a _ ob e => hh a ob e, o.nd, o.dj, fun i a ha => by
    rw [new a ((o.at_ i).there a ha)]
    exact o.fr i a ha⟩
  refine ⟨zh, g.yh, g.zy, g.yt, by rw [List.length_append, List.length_append, r.len]; rfl, fun i => if i = σ.length then F else G i, fun i => ?_, fun i => ?_, fun i j a ha ha' => ?_, fun i a ha => ?_⟩
  · by_cases hi : i = σ.length
    · rw [if_pos hi, getD_app_ge (by omega), getD_app_ge (by have := r.len; omega), hi, Nat.sub_self, ← r.len, Nat.sub_self]
      exact h
    · rw [if_neg hi]
      have q := o'.at_ i
      by_cases hlt : i < σ.length
      · rw [getD_app_lt hlt, getD_app_lt (by have := r.len; omega)]
        exact q
      · rw [getD_out (l := s ++ [sv]) (by rw [List.length_append]; have := r.len; show s.length + 1 ≤ i; omega)]
        rw [getD_out (l := s) (by have := r.len; omega)] at q
        exact q
  · by_cases hi : i = σ.length
    · rw [if_pos hi]; exact nd
    · rw [if_neg hi]; exact o'.nd i
  · by_cases hi : i = σ.length
    · rw [if_pos hi] at ha
      by_cases hj : j = σ.length
      · rw [hi, hj]
      · rw [if_neg hj] at ha'; exact (hd j a ha ha').elim
    · rw [if_neg hi] at ha
      by_cases hj : j = σ.length
      · rw [if_pos hj] at ha'; exact (hd i a ha' ha).elim
      · rw [if_neg hj] at ha'; exact o'.dj i j a ha ha'
  · by_cases hi : i = σ.length
    · rw [if_pos hi] at ha
      refine ⟨(fr a ha).2, ?_⟩
      cases e : Y a with
      | none => rfl
      | some q => exact absurd (fr a ha).1 (by rw [r.yh a q e]; exact fun z => nomatch z)
    · rw [if_neg hi] at ha; exact o'.fr i a ha
theorem Rel.push0 (r : Rel K Z Y H σ s) {v : Option V} {sv : SV} (h : SlotAt K Z H v sv []) : Rel K Z Y H (σ ++ [v]) (s ++ [sv]) :=
  r.push (Same.refl _) (Same.refl _) r.zh (fun _ _ => rfl) h .nil (fun a ha => nomatch ha)
theorem Rel.pushD (r : Rel K Z Y H σ s) {v : V} {x : D} (h : Rp K Z v x) : Rel K Z Y H (σ ++ [some v]) (s ++ [.d x]) := r.push0 ⟨rfl, v, rfl, h⟩
theorem Rel.pushN (r : Rel K Z Y H σ s) {v : Option V} : Rel K Z Y H (σ ++ [v]) (s ++ [.no]) := r.push0 rfl
/-- a new list -/
theorem Rel.newL (r : Rel K Z Y H σ s) {p : Addr} {vs : List V} {xs : List D} (h : H p = none) (hz : vs.length ≤ sizeLine) (a : RpAll K Z vs xs) : Rel K Z Y (upd H p (.lst vs)) (σ ++ [some (.ref p)]) (s ++ [.l xs]) :=
  r.push (F := [p]) (same_upd h) (Same.refl _) (r.zh.trans (same_upd h)) (fun _ _ => rfl) ⟨p, vs, rfl, rfl, upd_same, hz, a⟩ (by simp) fun a ha => by
    obtain rfl : a = p := by simpa using ha
    exact ⟨h, r.fresh h⟩
/-- what a slot alone holds: nobody else speaks of it -/
theorem OwnF.lone {F : Nat → List Addr} (o : OwnF K Z Y H σ s F) {i j : Nat} {a : Addr} (h : a ∈ F i) (hj : j ≠ i) : a ∉ F j := fun h' => hj (o.dj j i a h' h)
/-- a slot's list is written -/
theorem Rel.write (r : Rel K Z Y H σ s) {i : Nat} {p : Addr} {vs' : List V} {xs xs' : List D} (hs : s.getD i .no = .l xs) (hv : σ.getD i none = some (.ref p)) (hz : vs'.length ≤ sizeLine) (a : RpAll K Z vs' xs') :
    Rel K Z Y (upd H p (.lst vs')) σ (s.set i (.l xs')) := by
  obtain ⟨F, o⟩ := r.own
  have q := o.at_ i
  rw [hs, hv] at q
  obtain ⟨p', vs, h1, h2, h3, h4, h5⟩ := q
  cases h1
  have hi : i < s.length := by
    by_cases h : i < s.length
    · exact h
    · rw [getD_out (by omega)] at hs; cases hs
  have pf := o.fr i p (by rw [h2]; exact List.mem_cons_self)
  refine ⟨fun b x e => ?_, fun b x e => ?_, r.zy, r.yt, by rw [List.length_set]; exact r.len, F, fun j => ?_, o.nd, o.dj, o.fr⟩
  · rw [upd_ne (fun z => by rw [z, pf.1] at e; cases e)]; exact r.zh b x e
  · rw [upd_ne (fun z => by rw [z, pf.2] at e; cases e)]; exact r.yh b x e
  · by_cases hj : i = j
    · subst hj
      rw [getD_set_self hi, hv, h2]
      exact ⟨p, vs', rfl, rfl, upd_same, hz, a⟩
    · rw [getD_set_ne hj]
      refine (o.at_ j).mono (Same.refl _) fun b hb ob e => ?_
      rw [upd_ne]
      · exact e
      · rintro rfl
        exact hj (o.dj i j b (by rw [h2]; exact List.mem_cons_self) hb)
/-- what a slot's content is as a value -/
def asD : SV → Option D
  | .d x => some x
  | .l xs => some (.list xs)
  | .ll xss => some (.list (xss.map .list))
  | .dc kvs => some (.dict kvs)
  | .tp ws => some (.tuple (ws.map PV.asD))
  | .ob c fs => some (obD c (fs.map fun p => (.str p.1, p.2.asD)))
  | .no => none
theorem DcAt.rp {p : Addr} {kvs : List (D × D)} (h : DcAt K Z H p kvs) (e : Same Z H) : Rp K H (.ref p) (.dict kvs) := by
  rcases h with ⟨ks, e1, r⟩ | ⟨ks, kvs', e0, e1, r⟩
  · exact .dcK (.inl e1) (r.same e)
  · rw [e0]; exact .dcT e1 (r.same e)
theorem PartAt.rp {v : V} {w : PV} {F : List Addr} (h : PartAt K Z H v w F) (e : Same Z H) : Rp K H v w.asD := by
  cases w with
  | d x => exact h.2.same e
  | l xs =>
    obtain ⟨p, vs, h1, h2, h3, h4, h5⟩ := h
    rw [h1]
    exact .lst (.inl h3) h4 (h5.same e)
  | dc kvs =>
    obtain ⟨p, h1, h2, h3⟩ := h
    rw [h1]
    exact h3.rp e
theorem TpAt.all {vs : List V} {ws : List PV} {F : List Addr} (h : TpAt K Z H vs ws F) (e : Same Z H) : RpAll K H vs (ws.map PV.asD) := by
  induction h with
  | nil => exact .nil
  | cons h r ih => exact .cons (h.rp e) ih
theorem TpAt.keys (e : Same Z H) : ∀ {fs : List (Str × PV)} {vs : List V} {F : List Addr}, TpAt K Z H vs (fs.map (·.2)) F → RpK K H (obK ((fs.map (·.1)).zip vs)) (fs.map fun p => (.str p.1, p.2.asD))
  | [], _, _, .nil => .nil
  | (n, w) :: fs, _, _, .cons h r => .cons (k := .inr n) (h.rp e) (TpAt.keys e r)
theorem LL.all : ∀ {qs : List Addr} {xss : List (List D)}, LL K Z H qs xss → Same Z H → RpAll K H (qs.map V.ref) (xss.map .list)
  | _, _, .nil, _ => .nil
  | _, _, .cons h z a r, e => .cons (.lst (.inl h) z (a.same e)) (LL.all r e)
theorem SlotAt.asD {v : Option V} {sv : SV} {F : List Addr} {x : D} (h : SlotAt K Z H v sv F) (e : Same Z H) (ha : asD sv = some x) : ∃ u, v = some u ∧ Rp K H u x := by
  cases sv with
  | no => cases ha
  | d y =>
    cases ha
    obtain ⟨_, u, h2, r⟩ := h
    exact ⟨u, h2, r.same e⟩
  | l xs =>
    cases ha
    obtain ⟨p, vs, h1, h2, h3, h4, h5⟩ := h
    exact ⟨_, h1, .lst (.inl h3) h4 (h5.same e)⟩
  | ll xss =>
    cases ha
    obtain ⟨p, qs, h1, h2, h3, h4, h5⟩ := h
    exact ⟨_, h1, .lst (.inl h3) (by rw [List.length_map]; exact h4) (h5.all e)⟩
  | dc kvs =>
    cases ha
    obtain ⟨p, h1, h2, h3⟩ := h
    exact ⟨_, h1, h3.rp e⟩
  | ob c fs =>
    cases ha
    obtain ⟨p, dx, vs, G, h1, h2, h3, h4, h5⟩ := h
    exact ⟨_, h1, .obj h3 h4 (h5.keys e)⟩
  | tp ws =>
    cases ha
    obtain ⟨p, vs, h1, h3, h4, h5⟩ := h
    exact ⟨_, h1, .tup (e _ _ h3) h4 (h5.all e)⟩
/-- nobody changes any more what a slot held alone -/
theorem Rel.freeze (r : Rel K Z Y H σ s) {i : Nat} {x : D} (ha : Hs.asD (s.getD i .no) = some x) :
    ∃ Z', Same Z Z' ∧ Rel K Z' Y H σ (s.set i (.d x)) := by
  classical
  obtain ⟨F, o⟩ := r.own
  have hi : i < s.length := by
    by_cases h : i < s.length
    · exact h
    · rw [getD_out (by omega)] at ha; cases ha
  let Z' : Hp := fun a => if a ∈ F i then H a else Z a
  have hz : Same Z Z' := fun a q e => by
    show (if _ then _ else _) = _
    rw [if_neg (fun h => by rw [(o.fr i a h).1] at e; cases e)]
    exact e
  have zh : Same Z' H := fun a q e => by
    have e : (if a ∈ F i then H a else Z a) = some q := e
    split at e
    · exact e
    · exact r.zh a q e
  refine ⟨Z', hz, zh, r.yh, fun a ha => ?_, r.yt, by rw [List.length_set]; exact r.len, fun j => if j = i then [] else F j, fun j => ?_, fun j => ?_, fun j k a ha ha' => ?_, fun j a ha => ?_⟩
  · have e : (if a ∈ F i then H a else Z a) ≠ none := ha
    split at e
    · exact (o.fr i a (by assumption)).2
    · exact r.zy a e
  · by_cases hj : j = i
    · subst hj
      rw [if_pos rfl, getD_set_self hi]
      -- within Z' alone
      have q := o.at_ j
      have q' : SlotAt K Z' Z' (σ.getD j none) (s.getD j .no) (F j) := q.mono hz fun a ha ob e => by
        show (if _ then _ else _) = _
        rw [if_pos ha]; exact e
      obtain ⟨u, h1, h2⟩ := q'.asD (Same.refl _) ha
      exact ⟨rfl, u, h1, h2⟩
    · rw [if_neg hj, getD_set_ne (Ne.symm hj)]
      exact (o.at_ j).mono hz fun a _ ob e => e
  · by_cases hj : j = i
    · rw [if_pos hj]; exact .nil
    · rw [if_neg hj]; exact o.nd j
  · by_cases hj : j = i
    · rw [if_pos hj] at ha; cases ha
    · rw [if_neg hj] at ha
      by_cases hk : k = i
      · rw [if_pos hk] at ha'; cases ha'
      · rw [if_neg hk] at ha'; exact o.dj j k a ha ha'
  · by_cases hj : j = i
    · rw [if_pos hj] at ha; cases ha
    · rw [if_neg hj] at ha
      refine ⟨?_, (o.fr j a ha).2⟩
      show (if _ then _ else _) = _
      rw [if_neg (o.lone ha (Ne.symm hj))]
      exact (o.fr j a ha).1
end
end Hs
namespace Hs
open PySem
abbrev XF := Str → S → Prop
abbrev FE := XF → S → (R → S → Prop) → Prop
abbrev FT := XF → S → (Bool → S → Prop) → Prop
abbrev FA := XF → S → (List R → S → Prop) → Prop
abbrev FO := XF → S → (Option Int → S → Prop) → Prop
structure FEnds where
  nx : S → Prop
  rt : R → S → Prop
  bk : S → Prop := fun _ => False
  ct : S → Prop := fun _ => False
  xx : XF
abbrev FS := FEnds → S → Prop
abbrev FG := D → S → (S → Prop) → Prop
abbrev FI := XF → S → (List D → S → Prop) → Prop
/-- a def: its arguments' slots; what is wanted of an error and of an answer, with the arguments' slots as they end -/
abbrev FSem := List SV → XF → (R → S → Prop) → Prop
abbrev V1 := D → (R → Prop) → Prop
abbrev V2 := D → D → (R → Prop) → Prop
abbrev VN := List D → (R → Prop) → Prop
def svR : R → SV
  | .d x => .d x
  | .own v => v
  | .top _ => .no
/-- a slot's content as a value that may be looked at -/
def viewS : SV → Option D
  | .d x => some x
  | .l xs => some (.list xs)
  | .dc kvs => some (.dict kvs)
  | _ => none
def viewR (s : S) : R → Option D
  | .d x => some x
  | .own v => viewS v
  | .top i => viewS (s.getD i .no)
def look (s : S) (r : R) (k : D → Prop) : Prop :=
  match viewR s r with
  | some d => k d
  | none => False
/-- .. that nobody changes from now on -/
def frz (r : R) (s : S) (k : D → S → Prop) : Prop :=
  match r with
  | .d x => k x s
  | .own v => match asD v with
    | some x => k x s
    | none => False
  | .top i => match asD (s.getD i .no) with
    | some x => k x (s.set i (.d x))
    | none => False
def frzAll : List R → S → (List D → S → Prop) → Prop
  | [], s, k => k [] s
  | r :: rs, s, k => frz r s fun x s1 => frzAll rs s1 fun xs s2 => k (x :: xs) s2
def fVar (i : Nat) : FE := fun _ s Q =>
  match s.getD i .no with
  | .no => False
  | .d x => Q (.d x) s
  | _ => Q (.top i) s
def fC (x : D) : FE := fun _ s Q => Q (.d x) s
def fNil : FA := fun _ s Q => Q [] s
def fCons (a : FE) (r : FA) : FA := fun X s Q => a X s fun x s1 => r X s1 fun xs s2 => Q (x :: xs) s2
def fTup (a : FA) : FE := fun X s Q => a X s fun rs s1 => frzAll rs s1 fun ds s2 => Q (.d (.tuple ds)) s2
def fLst (a : FA) : FE := fun X s Q => a X s fun rs s1 => frzAll rs s1 fun ds s2 => Q (.own (.l ds)) s2
def fOp (g : V2) (a b : FE) : FE := fun X s Q => a X s fun r1 s1 => b X s1 fun r2 s2 => look s2 r1 fun d => look s2 r2 fun e => g d e fun r => Q r s2
def fUn (g : V1) (a : FE) : FE := fun X s Q => a X s fun r1 s1 => look s1 r1 fun d => g d fun r => Q r s1
/-- a built-in called with values that it looks at -/
def fBlt (g : VN) (a : FA) : FE := fun X s Q => a X s fun rs s1 => lookAll s1 rs fun ds => g ds fun r => Q r s1
where lookAll (s : S) : List R → (List D → Prop) → Prop
  | [], k => k []
  | r :: rs, k => look s r fun d => lookAll s rs fun ds => k (d :: ds)
def isB (r : R) (k : Bool → Prop) : Prop :=
  match r with
  | .d (.bool b) => k b
  | _ => False
def fAndV (a b : FE) : FE := fun X s Q => a X s fun r s1 => isB r fun c => if c = true then b X s1 Q else Q (.d (.bool false)) s1
def fOrV (a b : FE) : FE := fun X s Q => a X s fun r s1 => isB r fun c => if c = true then Q (.d (.bool true)) s1 else b X s1 Q
def fNotV (a : FE) : FE := fun X s Q => a X s fun r s1 => isB r fun c => Q (.d (.bool (!c))) s1
def fIfE (t : FT) (a b : FE) : FE := fun X s Q => t X s fun c s1 => if c = true then a X s1 Q else b X s1 Q
/-- a < b < c -/
def fChain (g g' : V2) (a b c : FE) : FE := fun X s Q => a X s fun r1 s1 => b X s1 fun r2 s2 => look s2 r1 fun d => look s2 r2 fun e => g d e fun r => isB r fun k =>
  if k = true then c X s2 fun r3 s3 => look s3 r2 fun e' => look s3 r3 fun h => g' e' h fun z => Q z s3 else Q (.d (.bool false)) s2
def fNoPart : FO := fun _ s Q => Q none s
def fPart (a : FE) : FO := fun X s Q => a X s fun r s1 => match r with
  | .d (.int i) => Q (some i) s1
  | _ => False
def fSl (g : D → Option Int → Option Int → (R → Prop) → Prop) (a : FE) (lo hi : FO) : FE := fun X s Q => a X s fun r s1 => lo X s1 fun l s2 => hi X s2 fun h s3 => look s3 r fun d => g d l h fun z => Q z s3
def fB (a : FE) : FT := fun X s Q => a X s fun r s1 => isB r fun c => Q c s1
def fAnd (t u : FT) : FT := fun X s Q => t X s fun c s1 => if c = true then u X s1 Q else Q false s1
def fOr (t u : FT) : FT := fun X s Q => t X s fun c s1 => if c = true then Q true s1 else u X s1 Q
def fNot (t : FT) : FT := fun X s Q => t X s fun c s1 => Q (!c) s1
def fYes : FT := fun _ s Q => Q true s
def bindA : List Bool → List R → S → (List SV → S → Prop) → Prop
  | [], [], s, k => k [] s
  | false :: ms, r :: rs, s, k => frz r s fun x s1 => bindA ms rs s1 fun svs s2 => k (.d x :: svs) s2
  | true :: ms, .top i :: rs, s, k => bindA ms rs (s.set i .no) fun svs s2 => k (s.getD i .no :: svs) s2
  | true :: ms, .d x :: rs, s, k => bindA ms rs s fun svs s2 => k (.d x :: svs) s2
  | true :: ms, .own v :: rs, s, k => bindA ms rs s fun svs s2 => k (v :: svs) s2
  | _, _, _, _ => False
/-- what the slots that were lent hold behind the call -/
def putB : List Bool → List R → S → S → S
  | true :: ms, .top i :: rs, f :: fin, s => putB ms rs fin (s.set i f)
  | _ :: ms, _ :: rs, _ :: fin, s => putB ms rs fin s
  | _, _, _, s => s
def fCall (sem : FSem) (ms : List Bool) (a : FA) : FE := fun X s Q => a X s fun rs s1 => bindA ms rs s1 fun svs s2 => sem svs (fun n fin => X n (putB ms rs fin s2)) fun r fin => Q r (putB ms rs fin s2)
def wipeS (s : S) : List Nat → S
  | [] => s
  | i :: is => wipeS (s.set i .no) is
def fComp (X : XF) (g : FG) (wp : List Nat) (t : FT) (e : FE) (Q : R → S → Prop) : List D → List D → S → Prop
  | [], acc, s => Q (.own (.l acc)) s
  | x :: xs, acc, s => g x s fun s1 => t X s1 fun b s2 => if b = true then e X s2 fun r s3 => frz r s3 fun d s4 => fComp X g wp t e Q xs (acc ++ [d]) (wipeS s4 wp) else fComp X g wp t e Q xs acc (wipeS s2 wp)
def fLc (it : FI) (g : FG) (wp : List Nat) (t : FT) (e : FE) : FE := fun X s Q => it X s fun xs s1 => xs.length ≤ sizeLine ∧ fComp (fun _ _ => False) g wp t e Q xs [] (wipeS s1 wp)
def iSeq (a : FE) : FI := fun X s Q => a X s fun r s1 => frz r s1 fun d s2 => match d with
  | .list xs => Q xs s2
  | .tuple xs => Q xs s2
  | _ => False
def lim62 (i : Int) : Prop := -(2 ^ 62) ≤ i ∧ i < 2 ^ 62
def rangeD (lo : Int) (n : Nat) : List D := (List.range n).map fun (k : Nat) => PyData.int (lo + (k : Int))
def iRange1 (a : FA) : FI := fun X s Q => a X s fun rs s1 => match rs with
  | [.d (.int j)] => lim62 j ∧ Q (rangeD 0 j.toNat) s1
  | _ => False
def iRange2 (a : FA) : FI := fun X s Q => a X s fun rs s2 => match rs with
  | [.d (.int i), .d (.int j)] => lim62 i ∧ lim62 j ∧ Q (rangeD i (j - i).toNat) s2
  | _ => False
def enumD (xs : List D) : List D := xs.zipIdx.map fun p => .tuple [.int (p.2 : Nat), p.1]
def iEnum (a : FA) : FI := fun X s Q => a X s fun rs s1 => frzAll rs s1 fun ds s2 => match ds with
  | [.list xs] => Q (enumD xs) s2
  | [.tuple xs] => Q (enumD xs) s2
  | _ => False
def zipD (xs ys : List D) : List D := List.zipWith (fun x y => .tuple [x, y]) xs ys
def iZip (a : FA) : FI := fun X s Q => a X s fun rs s1 => frzAll rs s1 fun ds s4 => match ds with
  | [.list xs, .list ys] => Q (zipD xs ys) s4
  | [.tuple xs, .list ys] => Q (zipD xs ys) s4
  | [.list xs, .tuple ys] => Q (zipD xs ys) s4
  | [.tuple xs, .tuple ys] => Q (zipD xs ys) s4
  | _ => False
def gNm (i : Nat) : FG := fun d s k => k (s.set i (.d d))
def gTp : List FG → FG := fun gs d s k => match d with
  | .tuple xs => gTps gs xs s k
  | _ => False
where gTps : List FG → List D → S → (S → Prop) → Prop
  | [], [], s, k => k s
  | g :: gs, x :: xs, s, k => g x s fun s1 => gTps gs xs s1 k
  | _, _, _, _ => False
def fNext : FS := fun E s => E.nx s
def fSeq (a b : FS) : FS := fun E s => a { E with nx := fun s1 => b E s1 } s
def fIfS (t : FT) (a b : FS) : FS := fun E s => t E.xx s fun c s1 => if c = true then a E s1 else b E s1
def fRet (a : FE) : FS := fun E s => a E.xx s E.rt
def fRetN : FS := fun E s => E.rt (.d .none) s
def fBreak : FS := fun E s => E.bk s
def fDrop (a : FE) : FS := fun E s => a E.xx s fun _ s1 => E.nx s1
def fRaise (n : Str) : FS := fun E s => E.xx n s
def putR (i : Nat) (r : R) (s : S) (k : S → Prop) : Prop :=
  match r with
  | .d x => k (s.set i (.d x))
  | .own v => k (s.set i v)
  | .top j => match asD (s.getD j .no) with
    | some x => k ((s.set j (.d x)).set i (.d x))
    | none => False
def fAsg (i : Nat) (a : FE) : FS := fun E s => a E.xx s fun r s1 => putR i r s1 E.nx
/-- a, b = e -/
def fUnp (g : FG) (a : FE) : FS := fun E s => a E.xx s fun r s1 => frz r s1 fun d s2 => g d s2 E.nx
/-- a, b = e1, e2 -/
def fPar (i j : Nat) (a : FA) : FS := fun E s => a E.xx s fun rs s2 => match rs with
  | [r1, r2] => frz r1 s2 fun d1 s3 => frz r2 s3 fun d2 s4 => E.nx ((s4.set i (.d d1)).set j (.d d2))
  | _ => False
def fLoop (g : FG) (wp : List Nat) (b : FS) (E : FEnds) : List D → S → Prop
  | [], s => E.nx s
  | x :: xs, s => g x s fun s1 => b { E with nx := fun s2 => fLoop g wp b E xs (wipeS s2 wp), ct := fun s2 => fLoop g wp b E xs (wipeS s2 wp), bk := fun s2 => E.nx (wipeS s2 wp) } s1
def fFor (it : FI) (g : FG) (wp : List Nat) (b : FS) : FS := fun E s => it E.xx s fun xs s1 => fLoop g wp b E xs (wipeS s1 wp)
def fWhileN (wp : List Nat) (t : FT) (b : FS) (E : FEnds) : Nat → S → Prop
  | 0, _ => False
  | n + 1, s => t E.xx s fun c s1 => if c = true then b { E with nx := fun s2 => fWhileN wp t b E n (wipeS s2 wp), ct := fun s2 => fWhileN wp t b E n (wipeS s2 wp), bk := fun s2 => E.nx (wipeS s2 wp) } s1 else E.nx s1
def fWhile (wp : List Nat) (t : FT) (b : FS) : FS := fun E s => ∃ n, fWhileN wp t b E n (wipeS s wp)
/-- a list of a slot's own, changed by a method -/
def onL (i : Nat) (s : S) (k : List D → Prop) : Prop :=
  match s.getD i .no with
  | .l xs => k xs
  | _ => False
abbrev LM := List D → List D → (D → List D → Prop) → Prop
/-- a method of a slot's own list: what it gives, what the list holds behind it -/
def fLm (i : Nat) (g : LM) (a : FA) : FE := fun X s Q => onL i s fun _ => a X s fun rs s1 => frzAll rs s1 fun ds s2 => onL i s2 fun xs => g xs ds fun d xs' => Q (.d d) (s2.set i (.l xs'))
def mAppend : LM := fun xs ds k => match ds with
  | [d] => xs.length < sizeLine ∧ k .none (xs ++ [d])
  | _ => False
def mExtend : LM := fun xs ds k => match ds with
  | [.list ys] => xs.length + ys.length ≤ sizeLine ∧ k .none (xs ++ ys)
  | _ => False
def mClear : LM := fun _ ds k => match ds with
  | [] => k .none []
  | _ => False
/-- xs[j] = e -/
def fSetIx (i : Nat) (j a : FE) : FS := fun E s => a E.xx s fun r s1 => onL i s1 fun _ => j E.xx s1 fun rj s2 => match rj with
  | .d (.int k) => frz r s2 fun d s3 => onL i s3 fun xs => 0 ≤ k ∧ k.toNat < xs.length ∧ E.nx (s3.set i (.l (xs.set k.toNat d)))
  | _ => False
def outR (r : R) (s : S) (k : R → S → Prop) : Prop :=
  match r with
  | .d x => k (.d x) s
  | .own v => k (.own v) s
  | .top i => k (.own (s.getD i .no)) (s.set i .no)
def semOf (np nl : Nat) (b : FS) : FSem := fun svs X Q => b { nx := fun s => Q (.d .none) (s.take np), rt := fun r s => outR r s fun r' s' => Q r' (s'.take np), xx := fun n s => X n (s.take np) } (svs ++ List.replicate (nl - np) .no)
end Hs
namespace Hs
open PySem PySem.Spec PyProof.Rows L2
section
variable {K : PySem.W.Frag} {Z Z' Y Y' H H' : Hp} {σ σ' : St} {s s' : S}
theorem Rel.take {ts : St} {us : S} (r : Rel K Z Y H (σ ++ ts) (s ++ us)) (hl : σ.length = s.length) : Rel K Z Y H σ s :=
  r.re (fun k => if k < σ.length then some k else none) hl (fun k => by
    by_cases h : k < σ.length
    · simp only [if_pos h]
      exact ⟨(getD_app_lt (by omega)).symm, (getD_app_lt h).symm⟩
    · simp only [if_neg h]
      exact .inl (getD_out (by omega))) (fun k k' j h h' => by
    by_cases a : k < σ.length
    · by_cases b : k' < σ.length
      · rw [if_pos a] at h; rw [if_pos b] at h'; cases h; cases h'; rfl
      · rw [if_neg b] at h'; cases h'
    · rw [if_neg a] at h; cases h)
theorem Rel.swap {σa σb σc : St} {sa sb sc : S} (r : Rel K Z Y H (σa ++ σb ++ σc) (sa ++ sb ++ sc)) (ha : σa.length = sa.length) (hb : σb.length = sb.length) : Rel K Z Y H (σa ++ σc ++ σb) (sa ++ sc ++ sb) := by
  have hl := r.len
  simp only [List.length_append] at hl
  refine r.re (fun k => if k < σa.length then some k else if k < σa.length + σc.length then some (k + σb.length) else if k < σa.length + σc.length + σb.length then some (k - σc.length) else none)
    (by simp only [List.length_append]; omega) (fun k => ?_) fun k k' j h h' => ?_
  · by_cases h1 : k < σa.length
    · simp only [if_pos h1]
      refine ⟨?_, ?_⟩
      · rw [List.append_assoc, List.append_assoc, getD_app_lt (by omega), getD_app_lt (by omega)]
      · rw [List.append_assoc, List.append_assoc, getD_app_lt h1, getD_app_lt h1]
    · simp only [if_neg h1]
      by_cases h2 : k < σa.length + σc.length
      · simp only [if_pos h2]
        refine ⟨?_, ?_⟩
        · rw [getD_app_lt (l := sa ++ sc) (by rw [List.length_append]; omega), getD_app_ge (by omega), getD_app_ge (by rw [List.length_append]; omega), List.length_append]
          congr 1; omega
        · rw [getD_app_lt (l := σa ++ σc) (by rw [List.length_append]; omega), getD_app_ge (by omega), getD_app_ge (by rw [List.length_append]; omega), List.length_append]
          congr 1; omega
      · simp only [if_neg h2]
        by_cases h3 : k < σa.length + σc.length + σb.length
        · simp only [if_pos h3]
          refine ⟨?_, ?_⟩
          · rw [getD_app_ge (l := sa ++ sc) (by rw [List.length_append]; omega), List.append_assoc sa sb sc, getD_app_ge (l := sa) (by omega), getD_app_lt (l := sb) (by omega), List.length_append]
            congr 1; omega
          · rw [getD_app_ge (l := σa ++ σc) (by rw [List.length_append]; omega), List.append_assoc σa σb σc, getD_app_ge (l := σa) (by omega), getD_app_lt (l := σb) (by omega), List.length_append]
            congr 1; omega
        · simp only [if_neg h3]
          exact .inl (getD_out (by simp only [List.length_append]; omega))
  · split at h <;> split at h' <;> (try split at h) <;> (try split at h') <;> (try split at h) <;> (try split at h') <;> (try cases h) <;> (try injection h with h) <;> (try injection h' with h') <;> (try omega) <;> (try cases h')
    all_goals omega
def Tops (σ : St) (vs : List V) (rs : List R) : Prop := ∀ (k i : Nat), rs[k]? = some (R.top i) → i < σ.length ∧ σ.getD i none = vs[k]?
structure RelX (K : PySem.W.Frag) (Z Y H : Hp) (σ : St) (s : S) (vs : List V) (rs : List R) : Prop where
  rel : Rel K Z Y H (σ ++ vs.map some) (s ++ rs.map svR)
  l1 : σ.length = s.length
  l2 : vs.length = rs.length
  top : Tops σ vs rs
theorem RelX.rel0 {vs : List V} {rs : List R} (r : RelX K Z Y H σ s vs rs) : Rel K Z Y H σ s := r.rel.take r.l1
theorem RelX.nil (r : Rel K Z Y H σ s) : RelX K Z Y H σ s [] [] := ⟨by simpa using r, r.len, rfl, fun k i h => by simp at h⟩
theorem Tops.one {v : V} {r : R} (h : ∀ i, r = .top i → i < σ.length ∧ σ.getD i none = some v) : Tops σ [v] [r] := fun k i e => by
  cases k with
  | zero => exact h i (by simpa using e)
  | succ k => simp at e
theorem RelX.d (r : Rel K Z Y H σ s) {v : V} {x : D} (h : Rp K Z v x) : RelX K Z Y H σ s [v] [.d x] :=
  ⟨r.pushD h, r.len, rfl, .one fun i e => nomatch e⟩
theorem RelX.tp (r : Rel K Z Y H σ s) {v : V} {i : Nat} (hi : i < σ.length) (h : σ.getD i none = some v) : RelX K Z Y H σ s [v] [.top i] :=
  ⟨r.pushN, r.len, rfl, .one fun j e => by cases e; exact ⟨hi, h⟩⟩
theorem RelX.own {v : V} {w : SV} (hl : σ.length = s.length) (r : Rel K Z Y H (σ ++ [some v]) (s ++ [w])) : RelX K Z Y H σ s [v] [.own w] :=
  ⟨r, hl, rfl, .one fun i e => nomatch e⟩
/-- results put aside while others come -/
theorem RelX.frame {vs : List V} {rs : List R} (r : RelX K Z Y H σ s vs rs) :
    ∃ Y', Same Y Y' ∧ Rel K Z Y' H σ s ∧ (∀ Z1 H1 σ1 s1, Same Z Z1 → Rel K Z1 Y' H1 σ1 s1 → Rel K Z1 Y H1 σ1 s1) ∧
      (∀ Z1 H1 s1 ws qs, Same Z Z1 → RelX K Z1 Y' H1 σ s1 ws qs → RelX K Z1 Y H1 σ s1 (vs ++ ws) (rs ++ qs)) := by
  obtain ⟨Y', hy, r1, back, _⟩ := r.rel.frame r.l1
  refine ⟨Y', hy, r1, fun Z1 H1 σ1 s1 hz q => (back Z1 H1 σ1 s1 hz q).take q.len, fun Z1 H1 s1 ws qs hz q => ?_⟩
  have b := back Z1 H1 _ _ hz q.rel
  refine ⟨?_, q.l1, by rw [List.length_append, List.length_append, r.l2, q.l2], fun k i e => ?_⟩
  · rw [List.map_append, List.map_append, ← List.append_assoc, ← List.append_assoc]
    exact b.swap q.l1 (by rw [List.length_map, List.length_map]; exact q.l2)
  · by_cases hk : k < rs.length
    · rw [List.getElem?_append_left hk] at e
      rw [List.getElem?_append_left (by rw [r.l2]; exact hk)]
      exact r.top k i e
    · rw [List.getElem?_append_right (by omega)] at e
      rw [List.getElem?_append_right (by rw [r.l2]; omega), r.l2]
      exact q.top _ i e
/-- a thing looked at: its own items stand in Z -/
def RpV (K : PySem.W.Frag) (Z H : Hp) (v : V) (d : D) : Prop :=
  Rp K Z v d ∨ (∃ p vs xs, v = .ref p ∧ d = .list xs ∧ H p = some (.lst vs) ∧ vs.length ≤ sizeLine ∧ RpAll K Z vs xs) ∨ ∃ p kvs, v = .ref p ∧ d = .dict kvs ∧ DcAt K Z H p kvs
theorem RpV.rp {v : V} {d : D} (r : RpV K Z H v d) (e : Same Z H) : Rp K H v d := by
  rcases r with r | ⟨p, vs, xs, rfl, rfl, h, z, a⟩ | ⟨p, kvs, rfl, rfl, h⟩
  · exact r.same e
  · exact .lst (.inl h) z (a.same e)
  · exact h.rp e
theorem RpV.list {v : V} {xs : List D} (r : RpV K Z H v (.list xs)) (e : Same Z H) : ∃ p vs, v = .ref p ∧ Rd H p (.lst vs) ∧ vs.length ≤ sizeLine ∧ RpAll K Z vs xs := by
  rcases r with r | ⟨p, vs, xs', rfl, e2, h, z, a⟩ | ⟨p, kvs, rfl, e2, h⟩
  · cases r with
    | lst h z a => exact ⟨_, _, rfl, same_rd e h, z, a⟩
  · cases e2; exact ⟨p, vs, rfl, .inl h, z, a⟩
  · cases e2
theorem RpV.tuple {v : V} {xs : List D} (r : RpV K Z H v (.tuple xs)) (e : Same Z H) : ∃ p vs, v = .ref p ∧ SqT K H p vs ∧ vs.length ≤ sizeLine ∧ RpAll K Z vs xs := by
  rcases r with r | ⟨p, vs, xs', rfl, e2, h, z, a⟩ | ⟨p, kvs, rfl, e2, h⟩
  · cases r with
    | tup h z a => exact ⟨_, _, rfl, tupSq (e _ _ h), z, a⟩
  · cases e2
  · cases e2
theorem keyD_ne (k : Key) : keyD k ≠ .none := by
  cases k <;> exact fun h => nomatch h
theorem RpK.nolit {ks : List (Key × V)} {x : D} {r : List (D × D)} (h : RpK K H ks ((.none, x) :: r)) : False := by
  generalize e : ((PyData.none, x) :: r) = l at h
  cases h with
  | nil => cases e
  | cons _ _ =>
    injection e with e1 _
    injection e1 with e2 _
    exact keyD_ne _ e2.symm
theorem RpT.nolit {ks : List (List Key × V)} {x : D} {r : List (D × D)} (h : RpT K H ks ((.none, x) :: r)) : False := by
  generalize e : ((PyData.none, x) :: r) = l at h
  cases h with
  | nil => cases e
  | cons _ _ =>
    injection e with e1 _
    injection e1 with e2 _
    cases e2
theorem RpV.lit {v : V} {xs : List D} (r : RpV K Z H v (.dict [(.none, .list xs)])) (e : Same Z H) : ∃ (p : Addr) (ns : List Int), v = .ref p ∧ xs = ns.map PyData.int ∧ SqL K H p (ns.map V.int) ∧ ns.length ≤ sizeLine := by
  rcases r with r | ⟨p, vs, xs', rfl, e2, h, z, a⟩ | ⟨p, kvs, rfl, e2, h⟩
  · generalize e0 : (PyData.dict [(.none, .list xs)]) = d at r
    cases r with
    | lit h z =>
      unfold litD at e0
      injection e0 with e1
      injection e1 with e2 _
      injection e2 with _ e3
      injection e3 with e4
      exact ⟨_, _, rfl, e4, e.seq h, z⟩
    | exc h =>
      unfold excD at e0
      injection e0 with e1
      injection e1 with e2 _
      injection e2 with _ e3
      cases e3
    | dcK h a => cases e0; exact a.nolit.elim
    | dcT h a => cases e0
    | obj h1 h2 a => cases e0
    | _ => cases e0
  · cases e2
  · cases e2
    rcases h with ⟨ks, e1, r⟩ | ⟨ks, kvs', e0, e1, r⟩
    · exact r.nolit.elim
    · cases e0
theorem RpV.int {v : V} {i : Int} (r : RpV K Z H v (.int i)) : v = .int i := by
  rcases r with r | ⟨p, vs, xs', rfl, e2, h, z, a⟩ | ⟨p, kvs, rfl, e2, h⟩
  · cases r; rfl
  · cases e2
  · cases e2
theorem RpV.bool {v : V} {i : Bool} (r : RpV K Z H v (.bool i)) : v = .bl i := by
  rcases r with r | ⟨p, vs, xs', rfl, e2, h, z, a⟩ | ⟨p, kvs, rfl, e2, h⟩
  · cases r; rfl
  · cases e2
  · cases e2
theorem RpV.str {v : V} {i : Str} (r : RpV K Z H v (.str i)) : v = .str i := by
  rcases r with r | ⟨p, vs, xs', rfl, e2, h, z, a⟩ | ⟨p, kvs, rfl, e2, h⟩
  · cases r; rfl
  · cases e2
  · cases e2
theorem RpV.non {v : V} (r : RpV K Z H v .none) : v = .non := by
  rcases r with r | ⟨p, vs, xs', rfl, e2, h, z, a⟩ | ⟨p, kvs, rfl, e2, h⟩
  · cases r; rfl
  · cases e2
  · cases e2
theorem SlotAt.view {v : Option V} {w : SV} {F : List Addr} {d : D} (h : SlotAt K Z H v w F) (e : viewS w = some d) : ∃ u, v = some u ∧ RpV K Z H u d := by
  cases w with
  | no => cases e
  | d x => cases e; obtain ⟨_, u, h2, r⟩ := h; exact ⟨u, h2, .inl r⟩
  | l xs => cases e; obtain ⟨p, vs, h1, h2, h3, h4, h5⟩ := h; exact ⟨_, h1, .inr (.inl ⟨p, vs, xs, rfl, rfl, h3, h4, h5⟩)⟩
  | ll xss => cases e
  | dc kvs => cases e; obtain ⟨p, h1, h2, h3⟩ := h; exact ⟨_, h1, .inr (.inr ⟨p, kvs, rfl, rfl, h3⟩)⟩
  | ob c fs => cases e
  | tp ws => cases e
theorem Rel.slot (r : Rel K Z Y H σ s) (i : Nat) : ∃ F, SlotAt K Z H (σ.getD i none) (s.getD i .no) F := let ⟨F, o⟩ := r.own; ⟨F i, o.at_ i⟩
theorem RelX.look {vs : List V} {rs : List R} (r : RelX K Z Y H σ s vs rs) {k : Nat} {q : R} {d : D} (hk : rs[k]? = some q) (e : viewR s q = some d) : ∃ v, vs[k]? = some v ∧ RpV K Z H v d := by
  have hlt : k < rs.length := (List.getElem?_eq_some_iff.mp hk).1
  have sl : ∃ F, SlotAt K Z H (vs[k]?) (svR q) F := by
    obtain ⟨F, h⟩ := r.rel.slot (σ.length + k)
    refine ⟨F, ?_⟩
    rw [getD_app_ge (by omega), getD_app_ge (by have := r.l1; omega), ← r.l1, Nat.add_sub_cancel_left] at h
    have e1 : (rs.map svR).getD k .no = svR q := by rw [List.getD_eq_getElem?_getD, List.getElem?_map, hk]; rfl
    have e2 : (vs.map some).getD k none = vs[k]? := by
      rw [List.getD_eq_getElem?_getD, List.getElem?_map]
      cases vs[k]? <;> rfl
    rw [e1, e2] at h
    exact h
  cases q with
  | d x =>
    cases e
    obtain ⟨F, h⟩ := sl
    exact h.view rfl
  | own w =>
    obtain ⟨F, h⟩ := sl
    exact h.view e
  | top i =>
    obtain ⟨_, h1⟩ := r.top k i hk
    obtain ⟨F, h⟩ := r.rel0.slot i
    rw [h1] at h
    exact h.view e
structure NewR (K : PySem.W.Frag) (Z H Z' H' : Hp) (u : V) (r : R) : Prop where
  hh : Same H H'
  hz : Same Z Z'
  zh : Same Z' H'
  old : ∀ a, H a ≠ none → Z' a = Z a
  val : match r with
    | .d x => Rp K Z' u x
    | .own w => ∃ F : List Addr, SlotAt K Z' H' (some u) w F ∧ F.Nodup ∧ ∀ a ∈ F, H a = none ∧ Z' a = none
    | .top _ => False
theorem NewR.d {u : V} {x : D} (e : Same Z H) (h : Rp K Z u x) : NewR K Z H Z H u (.d x) := ⟨Same.refl _, Same.refl _, e, fun _ _ => rfl, h⟩
theorem NewR.tup {p : Addr} {vs : List V} {xs : List D} (e : Same Z H) (hp : H p = none) (z : vs.length ≤ sizeLine) (h : RpAll K Z vs xs) : NewR K Z H (upd Z p (.tup vs)) (upd H p (.tup vs)) (.ref p) (.d (.tuple xs)) :=
  have zp : Z p = none := e.free hp
  ⟨same_upd hp, same_upd zp, fun b x q => by
    by_cases hb : b = p
    · subst hb; rw [upd_same] at q ⊢; exact q
    · rw [upd_ne hb] at q ⊢; exact e b x q, fun a ha => upd_ne fun z => ha (z ▸ hp), .tup upd_same z (h.same (same_upd zp))⟩
theorem NewR.lst {p : Addr} {vs : List V} {xs : List D} (e : Same Z H) (hp : H p = none) (z : vs.length ≤ sizeLine) (h : RpAll K Z vs xs) : NewR K Z H Z (upd H p (.lst vs)) (.ref p) (.own (.l xs)) :=
  ⟨same_upd hp, Same.refl _, e.trans (same_upd hp), fun _ _ => rfl, [p], ⟨p, vs, rfl, rfl, upd_same, z, h⟩, by simp, fun a ha => by
    obtain rfl : a = p := by simpa using ha
    exact ⟨hp, e.free hp⟩⟩
theorem Rel.new (r : Rel K Z Y H σ s) {u : V} {q : R} (n : NewR K Z H Z' H' u q) : RelX K Z' Y H' σ s [u] [q] := by
  cases q with
  | d x => exact .d (r.grow n.hh n.hz n.zh n.old) n.val
  | own w =>
    obtain ⟨F, h1, h2, h3⟩ := n.val
    exact .own r.len (r.push n.hh n.hz n.zh n.old h1 h2 h3)
  | top i => exact n.val.elim
end
structure Lv where
  E : WX
  io : List Nat
  σ0 : St
def Lv.keeps (L : Lv) (σ : St) : Prop := σ.length = L.σ0.length ∧ ∀ k ∈ L.io, σ.getD k none = L.σ0.getD k none
def XOk (X : Cx) (L : Lv) (Z Y : Hp) (Xf : XF) : Prop := ∀ n C Z' H' σ' s', Same Z Z' → L.keeps σ' → Rel X.K Z' Y H' σ' s' → Xf n s' → X.mg n = some (.ref C) → L.E (.ref C) none σ' H'
theorem XOk.mono {X : Cx} {L : Lv} {Z Z1 Y Y1 : Hp} {Xf : XF} (h : XOk X L Z Y Xf) (hz : Same Z Z1) (back : ∀ Z' H' σ' s', Same Z1 Z' → Rel X.K Z' Y1 H' σ' s' → Rel X.K Z' Y H' σ' s') : XOk X L Z1 Y1 Xf :=
  fun n C Z' H' σ' s' hz' k r q m => h n C Z' H' σ' s' (hz.trans hz') k (back Z' H' σ' s' hz' r) q m
theorem XOk.z {X : Cx} {L : Lv} {Z Z1 Y : Hp} {Xf : XF} (h : XOk X L Z Y Xf) (hz : Same Z Z1) : XOk X L Z1 Y Xf := h.mono hz fun _ _ _ _ _ r => r
def liftE (X : Cx) (L : Lv) (fe : FE) : TE := fun σ H Q => ∃ Z Y s Xf Qf, Rel X.K Z Y H σ s ∧ L.keeps σ ∧ XOk X L Z Y Xf ∧ fe Xf s Qf ∧ ∀ v H' Z' r s', Same Z Z' → RelX X.K Z' Y H' σ s' [v] [r] → Qf r s' → Q v H'
def liftT (X : Cx) (L : Lv) (ft : FT) : TT := fun σ H Q => ∃ Z Y s Xf Qf, Rel X.K Z Y H σ s ∧ L.keeps σ ∧ XOk X L Z Y Xf ∧ ft Xf s Qf ∧ ∀ b H' Z' s', Same Z Z' → Rel X.K Z' Y H' σ s' → Qf b s' → Q b H'
def liftA (X : Cx) (L : Lv) (n : Nat) (fa : FA) : TA := fun σ H Q => ∃ Z Y s Xf Qf, Rel X.K Z Y H σ s ∧ L.keeps σ ∧ XOk X L Z Y Xf ∧ fa Xf s Qf ∧ ∀ vs H' Z' rs s', Same Z Z' → RelX X.K Z' Y H' σ s' vs rs → rs.length = n → Qf rs s' → Q vs H'
structure EndsOk (X : Cx) (L : Lv) (Z Y : Hp) (Ef : FEnds) (D : Ends) : Prop where
  nx : ∀ σ' H' Z' s', Same Z Z' → L.keeps σ' → Rel X.K Z' Y H' σ' s' → Ef.nx s' → D.nx σ' H'
  rt : ∀ v σ' H' Z' r s', Same Z Z' → L.keeps σ' → RelX X.K Z' Y H' σ' s' [v] [r] → Ef.rt r s' → D.rt v H'
  bk : ∀ σ' H' Z' s', Same Z Z' → L.keeps σ' → Rel X.K Z' Y H' σ' s' → Ef.bk s' → D.bk σ' H'
  ct : ∀ σ' H' Z' s', Same Z Z' → L.keeps σ' → Rel X.K Z' Y H' σ' s' → Ef.ct s' → D.ct σ' H'
  xx : XOk X L Z Y Ef.xx
theorem EndsOk.z {X : Cx} {L : Lv} {Z Z1 Y : Hp} {Ef : FEnds} {D : Ends} (h : EndsOk X L Z Y Ef D) (hz : Same Z Z1) : EndsOk X L Z1 Y Ef D :=
  ⟨fun σ' H' Z' s' e => h.nx σ' H' Z' s' (hz.trans e), fun v σ' H' Z' r s' e => h.rt v σ' H' Z' r s' (hz.trans e), fun σ' H' Z' s' e => h.bk σ' H' Z' s' (hz.trans e), fun σ' H' Z' s' e => h.ct σ' H' Z' s' (hz.trans e), h.xx.z hz⟩
def liftS (X : Cx) (L : Lv) (fs : FS) : TS := fun D σ H => ∃ Z Y s Ef, Rel X.K Z Y H σ s ∧ L.keeps σ ∧ fs Ef s ∧ EndsOk X L Z Y Ef D
def PF (X : Cx) (L : Lv) (e : Expr) (fe : FE) : Prop := PE X e (liftE X L fe)
def PFT (X : Cx) (L : Lv) (e : Expr) (ft : FT) : Prop := PT X e (liftT X L ft)
def PFW (X : Cx) (L : Lv) (e : Expr) (ft : FT) : Prop := PW X e (liftT X L ft)
def PFA (X : Cx) (L : Lv) (es : List Expr) (fa : FA) : Prop := PA X es (liftA X L es.length fa)
def PFS (X : Cx) (L : Lv) (st : Stmt) (fs : FS) : Prop := PS X st (liftS X L fs)
def PFSs (X : Cx) (L : Lv) (sts : List Stmt) (fs : FS) : Prop := PSs X sts (liftS X L fs)
section
variable {X : Cx} {L : Lv} {e a b c : Expr} {es : List Expr} {fa fb fc : FE} {fr : FA} {pos p : Pos}
theorem PE_imp {t t' : TE} (h : PE X e t) (hi : ∀ σ H Q, t' σ H Q → t σ H Q) : PE X e t' := ⟨fun pins s σ H Q I q => h.run pins s σ H Q I (hi σ H Q q)⟩
theorem PT_imp {t t' : TT} (h : PT X e t) (hi : ∀ σ H Q, t' σ H Q → t σ H Q) : PT X e t' := ⟨fun pins s σ H Q I q => h.run pins s σ H Q I (hi σ H Q q)⟩
theorem PW_imp {t t' : TT} (h : PW X e t) (hi : ∀ σ H Q, t' σ H Q → t σ H Q) : PW X e t' := ⟨fun w pins s σ H Q I q => h.run w pins s σ H Q I (hi σ H Q q)⟩
theorem PA_imp {t t' : TA} (h : PA X es t) (hi : ∀ σ H Q, t' σ H Q → t σ H Q) : PA X es t' := ⟨fun ps pins s σ H Q I q => h.run ps pins s σ H Q I (hi σ H Q q)⟩
theorem PS_imp {st : Stmt} {t t' : TS} (h : PS X st t) (hi : ∀ D σ H, t' D σ H → t D σ H) : PS X st t' := ⟨fun pins s σ H D I q => h.run pins s σ H D I (hi D σ H q)⟩
theorem PSs_imp {st : List Stmt} {t t' : TS} (h : PSs X st t) (hi : ∀ D σ H, t' D σ H → t D σ H) : PSs X st t' := ⟨fun pins s σ H D I q => h.run pins s σ H D I (hi D σ H q)⟩
theorem getD_some {α : Type} {l : List (Option α)} {i : Nat} {v : α} (h : l.getD i none = some v) : l[i]? = some (some v) := by
  rw [List.getD_eq_getElem?_getD] at h
  cases e : l[i]? with
  | none => rw [e] at h; cases h
  | some o => rw [e] at h; rw [show o = some v from h]
theorem getD_lt {α : Type} {l : List (Option α)} {i : Nat} {v : α} (h : l.getD i none = some v) : i < l.length := (List.getElem?_eq_some_iff.mp (getD_some h)).1
theorem pf_var (i : Nat) {x : Str} (hN : X.N[i]? = some x := by rfl) (hv : Vis X.env.scope x := by first | exact Or.inl rfl | exact Or.inr (Or.inl rfl) | exact Or.inr (Or.inr rfl)) (hd : (x == ("__debug__" : Str)) = false := by decide)
    (hcd : (x == ("__classdict__" : Str)) = false := by decide) : PF X L (.Name x pos) (fVar i) := PE_imp (pe_var hN hv hd hcd) fun σ H Q ⟨Z, Y, s, Xf, Qf, r, k, xo, h, q⟩ => by
  obtain ⟨F, sl⟩ := r.slot i
  unfold fVar at h
  generalize hs : s.getD i .no = w at h sl
  have tp : ∀ p : V, σ.getD i none = some p → Qf (.top i) s → ∃ v, σ[i]? = some (some v) ∧ Q v H := fun p e h => ⟨p, getD_some e, q p H Z _ s (Same.refl _) (.tp r (getD_lt e) e) h⟩
  cases w with
  | no => exact h.elim
  | d x =>
    obtain ⟨_, u, h2, rp⟩ := sl
    exact ⟨u, getD_some h2, q u H Z _ s (Same.refl _) (.d r rp) h⟩
  | l xs => obtain ⟨p, vs, h1, _⟩ := sl; exact tp _ h1 h
  | ll xs => obtain ⟨p, vs, h1, _⟩ := sl; exact tp _ h1 h
  | dc xs => obtain ⟨p, h1, _⟩ := sl; exact tp _ h1 h
  | ob c fs => obtain ⟨p, dx, vs, G, h1, _⟩ := sl; exact tp _ h1 h
  | tp ws => obtain ⟨p, vs, h1, _⟩ := sl; exact tp _ h1 h
theorem pf_C {v : V} {x : D} (h : PE X e (tC v)) (r : ∀ Z, Rp X.K Z v x) : PF X L e (fC x) := PE_imp h fun σ H Q ⟨Z, Y, s, Xf, Qf, rl, k, xo, h, q⟩ => q v H Z _ s (Same.refl _) (.d rl (r Z)) h
theorem pf_int {i : Int} {j pos} : PF X L (.Constant (.int i) j pos) (fC (.int i)) := pf_C pe_int fun _ => .int i
theorem pf_bl {i : Bool} {j pos} : PF X L (.Constant (.bool i) j pos) (fC (.bool i)) := pf_C pe_bl fun _ => .bl i
theorem pf_non {j pos} : PF X L (.Constant .none j pos) (fC .none) := pf_C pe_non fun _ => .non
theorem pf_str {i : Str} {j pos} : PF X L (.Constant (.str i) j pos) (fC (.str i)) := pf_C pe_str fun _ => .str i
theorem pf_nil : PFA X L [] fNil := PA_imp pa_nil fun σ H Q ⟨Z, Y, s, Xf, Qf, r, k, xo, h, q⟩ => q [] H Z [] s (Same.refl _) (.nil r) rfl h
theorem pf_cons (ha : PF X L e fa) (hr : PFA X L es fr) (hs : starEach (e :: es) X.env = (false, eval e X.env) :: starEach es X.env := by rfl) : PFA X L (e :: es) (fCons fa fr) :=
  PA_imp (pa_cons ha hr hs) fun σ H Q ⟨Z, Y, s, Xf, Qf, r, k, xo, h, q⟩ => by
  refine ⟨Z, Y, s, Xf, _, r, k, xo, h, fun v H1 Z1 r1 s1 hz rx h1 => ?_⟩
  obtain ⟨Y', hy, rl, bk, fw⟩ := rx.frame
  refine ⟨Z1, Y', s1, Xf, _, rl, k, (xo.z hz).mono (Same.refl _) bk, h1, fun vs H2 Z2 rs s2 hz2 rx2 hn h2 => ?_⟩
  exact q (v :: vs) H2 Z2 (r1 :: rs) s2 (hz.trans hz2) (fw Z2 H2 s2 vs rs hz2 rx2) (by rw [List.length_cons, hn]; rfl) h2
theorem frz_ok {K : PySem.W.Frag} {Z Y H : Hp} {σ : St} {s : S} {us vs : List V} {ds : List D} {r : R} {rs : List R} {v : V} {k : D → S → Prop} (rx : RelX K Z Y H σ s (us ++ v :: vs) (ds.map R.d ++ r :: rs)) (hl : us.length = ds.length) (h : frz r s k) :
    ∃ Z' d s', Same Z Z' ∧ RelX K Z' Y H σ s' (us ++ v :: vs) (ds.map R.d ++ .d d :: rs) ∧ k d s' := by
  have hlu : (us.map some).length = (ds.map R.d).length := by rw [List.length_map, List.length_map, hl]
  have ix : ∀ (q : R), (ds.map R.d ++ q :: rs)[us.length]? = some q := fun q => by
    rw [List.getElem?_append_right (by rw [List.length_map, hl]; exact Nat.le_refl _), List.length_map, hl, Nat.sub_self]; rfl
  have iv : (us ++ v :: vs)[us.length]? = some v := by
    rw [List.getElem?_append_right (Nat.le_refl _), Nat.sub_self]; rfl
  have topsD : ∀ d σ', Tops σ (us ++ v :: vs) (ds.map R.d ++ r :: rs) → σ' = σ → Tops σ' (us ++ v :: vs) (ds.map R.d ++ .d d :: rs) := fun d σ' t e k i hk => by
    subst e
    by_cases hk0 : k = us.length
    · subst hk0
      rw [ix] at hk; cases hk
    · have : (ds.map R.d ++ r :: rs)[k]? = (ds.map R.d ++ .d d :: rs)[k]? := by
        by_cases hlt : k < us.length
        · rw [List.getElem?_append_left (by rw [List.length_map]; omega), List.getElem?_append_left (by rw [List.length_map]; omega)]
        · rw [List.getElem?_append_right (by rw [List.length_map]; omega), List.getElem?_append_right (by rw [List.length_map]; omega), List.length_map]
          have : k - ds.length = (k - ds.length - 1) + 1 := by omega
          rw [this]; rfl
      exact t k i (this.trans hk)
  cases r with
  | d x => exact ⟨Z, x, s, Same.refl _, rx, h⟩
  | own w =>
    unfold frz at h
    dsimp only at h
    cases e : asD w with
    | none => rw [e] at h; exact h.elim
    | some x =>
      rw [e] at h
      have sl : (s ++ (ds.map R.d ++ .own w :: rs).map svR).getD (s.length + us.length) .no = w := by
        rw [getD_app_ge (by omega), Nat.add_sub_cancel_left, List.getD_eq_getElem?_getD, List.getElem?_map, ix]; rfl
      obtain ⟨Z', hz, rl⟩ := rx.rel.freeze (i := s.length + us.length) (x := x) (by rw [sl]; exact e)
      refine ⟨Z', x, s, hz, ⟨?_, rx.l1, ?_, topsD x σ rx.top rfl⟩, h⟩
      · have : (s ++ (ds.map R.d ++ .own w :: rs).map svR).set (s.length + us.length) (.d x) = s ++ (ds.map R.d ++ .d x :: rs).map svR := by
          rw [List.set_append_right _ _ (by omega), Nat.add_sub_cancel_left, List.map_append, List.map_append, List.set_append_right _ _ (by simp [hl]), List.length_map, List.length_map, hl, Nat.sub_self]
          rfl
        rw [this] at rl
        exact rl
      · have := rx.l2
        simp only [List.length_append, List.length_cons] at this ⊢
        exact this
  | top i =>
    unfold frz at h
    dsimp only at h
    cases e : asD (s.getD i .no) with
    | none => rw [e] at h; exact h.elim
    | some x =>
      rw [e] at h
      obtain ⟨hi, hv⟩ := rx.top us.length i (ix _)
      rw [iv] at hv
      have his : i < s.length := by rw [← rx.l1]; exact hi
      obtain ⟨Z', hz, rl⟩ := rx.rel.freeze (i := i) (x := x) (by rw [getD_app_lt his]; exact e)
      rw [List.set_append_left _ _ his] at rl
      refine ⟨Z', x, s.set i (.d x), hz, ⟨?_, by rw [List.length_set]; exact rx.l1, ?_, topsD x σ rx.top rfl⟩, h⟩
      · have rpx : Rp K Z' v x := by
          obtain ⟨F, q⟩ := rl.slot i
          rw [getD_app_lt (by omega), getD_app_lt (by rw [List.length_set]; exact his), getD_set_self his, hv] at q
          obtain ⟨_, u, e1, rp⟩ := q
          cases e1
          exact rp
        have hlen : ((s.set i (.d x)) ++ (ds.map R.d ++ .top i :: rs).map svR).length = ((s.set i (.d x)) ++ (ds.map R.d ++ .d x :: rs).map svR).length := by simp
        refine rl.re (fun k => if k = s.length + us.length then none else some k) (by have := rl.len; rw [hlen] at this; exact this) (fun k => ?_) (fun k k' j h h' => ?_)
        · by_cases hk : k = s.length + us.length
          · simp only [if_pos hk]
            refine .inr ⟨x, v, ?_, ?_, rpx⟩
            · rw [hk, getD_app_ge (by rw [List.length_set]; omega), List.length_set, Nat.add_sub_cancel_left, List.getD_eq_getElem?_getD, List.getElem?_map, ix]; rfl
            · rw [hk, getD_app_ge (by have := rx.l1; omega), rx.l1, Nat.add_sub_cancel_left, List.getD_eq_getElem?_getD, List.getElem?_map, iv]; rfl
          · simp only [if_neg hk]
            refine ⟨?_, trivial⟩
            by_cases hlt : k < s.length
            · rw [getD_app_lt (by rw [List.length_set]; exact hlt), getD_app_lt (by rw [List.length_set]; exact hlt)]
            · rw [getD_app_ge (by rw [List.length_set]; omega), getD_app_ge (by rw [List.length_set]; omega), List.length_set, List.map_append, List.map_append]
              by_cases hlt2 : k - s.length < us.length
              · rw [getD_app_lt (by simp; omega), getD_app_lt (by simp; omega)]
              · rw [getD_app_ge (by simp; omega), getD_app_ge (by simp; omega)]
                have : k - s.length - (List.map svR (ds.map R.d)).length = (k - s.length - (List.map svR (ds.map R.d)).length - 1) + 1 := by simp; omega
                rw [this]
                rfl
        · by_cases e1 : k = s.length + us.length
          · rw [if_pos e1] at h; cases h
          · by_cases e2 : k' = s.length + us.length
            · rw [if_pos e2] at h'; cases h'
            · rw [if_neg e1] at h; rw [if_neg e2] at h'; cases h; cases h'; rfl
      · have := rx.l2
        simp only [List.length_append, List.length_cons] at this ⊢
        exact this
theorem frzAll_ok {K : PySem.W.Frag} {Y H : Hp} {σ : St} : ∀ {rs : List R} {vs : List V} {us : List V} {ds : List D} {Z : Hp} {s : S} {k : List D → S → Prop}, RelX K Z Y H σ s (us ++ vs) (ds.map R.d ++ rs) → us.length = ds.length → frzAll rs s k →
    ∃ Z' es s', Same Z Z' ∧ RelX K Z' Y H σ s' (us ++ vs) ((ds ++ es).map R.d) ∧ k es s'
  | [], vs, us, ds, Z, s, k, rx, hl, h => by
    refine ⟨Z, [], s, Same.refl _, ?_, h⟩
    simpa using rx
  | r :: rs, [], us, ds, Z, s, k, rx, hl, h => by
    have := rx.l2
    simp at this
    omega
  | r :: rs, v :: vs, us, ds, Z, s, k, rx, hl, h => by
    obtain ⟨Z1, d, s1, hz, rx1, h1⟩ := frz_ok rx hl h
    have e1 : us ++ v :: vs = (us ++ [v]) ++ vs := by simp
    have e2 : ds.map R.d ++ .d d :: rs = (ds ++ [d]).map R.d ++ rs := by simp
    rw [e1, e2] at rx1
    obtain ⟨Z2, es, s2, hz2, rx2, h2⟩ := frzAll_ok rx1 (by simp [hl]) h1
    refine ⟨Z2, d :: es, s2, hz.trans hz2, ?_, h2⟩
    rw [e1]
    simpa using rx2
theorem RelX.rps {K : PySem.W.Frag} {Z Y H : Hp} {σ : St} {s : S} : ∀ {vs : List V} {ds : List D}, RelX K Z Y H σ s vs (ds.map R.d) → RpAll K Z vs ds := by
  intro vs ds r
  have hl := r.l2
  rw [List.length_map] at hl
  have at_ : ∀ i v d, vs[i]? = some v → ds[i]? = some d → Rp K Z v d := fun i v d h1 h2 => by
    obtain ⟨F, q⟩ := r.rel.slot (σ.length + i)
    rw [getD_app_ge (by omega), getD_app_ge (by have := r.l1; omega), ← r.l1, Nat.add_sub_cancel_left, List.getD_eq_getElem?_getD, List.getD_eq_getElem?_getD, List.getElem?_map, List.getElem?_map, List.getElem?_map, h1, h2] at q
    obtain ⟨_, u, e1, rp⟩ := q
    cases e1
    exact rp
  clear r
  induction vs generalizing ds with
  | nil =>
    cases ds with
    | nil => exact .nil
    | cons d ds => simp at hl
  | cons v vs ih =>
    cases ds with
    | nil => simp at hl
    | cons d ds => exact .cons (at_ 0 v d rfl rfl) (ih (by simpa using hl) fun i v' d' h1 h2 => at_ (i + 1) v' d' h1 h2)
theorem pf_tup {x1} (ha : PFA X L es fr) (hn : es.length ≤ sizeLine := by show _ ≤ 16777216; decide) : PF X L (.Tuple es x1 pos) (fTup fr) := PE_imp (pe_tup ha) fun σ H Q ⟨Z, Y, s, Xf, Qf, r, k, xo, h, q⟩ => by
  refine ⟨Z, Y, s, Xf, _, r, k, xo, h, fun vs H1 Z1 rs s1 hz rx hl h1 => ?_⟩
  refine ⟨by rw [rx.l2, hl]; exact hn, fun p hp => ?_⟩
  obtain ⟨Z2, ds, s2, hz2, rx2, h2⟩ := frzAll_ok (us := []) (ds := []) rx rfl h1
  have n : NewR X.K Z2 H1 (upd Z2 p (.tup vs)) (upd H1 p (.tup vs)) (.ref p) (.d (.tuple ds)) := .tup rx2.rel0.zh hp (by rw [rx.l2, hl]; exact hn) rx2.rps
  exact q (.ref p) _ _ _ s2 ((hz.trans hz2).trans n.hz) (rx2.rel0.new n) h2
theorem pf_lst (ha : PFA X L es fr) (hn : es.length ≤ sizeLine := by show _ ≤ 16777216; decide) : PF X L (.List es pos) (fLst fr) := PE_imp (pe_lst ha) fun σ H Q ⟨Z, Y, s, Xf, Qf, r, k, xo, h, q⟩ => by
  refine ⟨Z, Y, s, Xf, _, r, k, xo, h, fun vs H1 Z1 rs s1 hz rx hl h1 => ?_⟩
  refine ⟨by rw [rx.l2, hl]; exact hn, fun p hp => ?_⟩
  obtain ⟨Z2, ds, s2, hz2, rx2, h2⟩ := frzAll_ok (us := []) (ds := []) rx rfl h1
  have n : NewR X.K Z2 H1 Z2 (upd H1 p (.lst vs)) (.ref p) (.own (.l ds)) := .lst rx2.rel0.zh hp (by rw [rx.l2, hl]; exact hn) rx2.rps
  exact q (.ref p) _ _ _ s2 ((hz.trans hz2).trans n.hz) (rx2.rel0.new n) h2
def rF2 (K : PySem.W.Frag) (g : V2) : R2 := fun x y H Q => ∃ Z d e Qf, Same Z H ∧ RpV K Z H x d ∧ RpV K Z H y e ∧ g d e Qf ∧ ∀ u H' Z' r, NewR K Z H Z' H' u r → Qf r → Q u H'
def rF1 (K : PySem.W.Frag) (g : V1) : V → Hp → VK → Prop := fun x H Q => ∃ Z d Qf, Same Z H ∧ RpV K Z H x d ∧ g d Qf ∧ ∀ u H' Z' r, NewR K Z H Z' H' u r → Qf r → Q u H'
theorem look_ok {s : S} {r : R} {k : D → Prop} (h : look s r k) : ∃ d, viewR s r = some d ∧ k d := by
  unfold look at h
  cases e : viewR s r with
  | none => rw [e] at h; exact h.elim
  | some d => rw [e] at h; exact ⟨d, rfl, h⟩
theorem fOp_ok {g : V2} {σ : St} {H : Hp} {Q : VK} (h : liftE X L (fOp g fa fb) σ H Q) : tOp (rF2 X.K g) (liftE X L fa) (liftE X L fb) σ H Q := by
  obtain ⟨Z, Y, s, Xf, Qf, r, k, xo, h, q⟩ := h
  refine ⟨Z, Y, s, Xf, _, r, k, xo, h, fun v H1 Z1 r1 s1 hz rx h1 => ?_⟩
  obtain ⟨Y', hy, rl, bk, fw⟩ := rx.frame
  refine ⟨Z1, Y', s1, Xf, _, rl, k, (xo.z hz).mono (Same.refl _) bk, h1, fun w H2 Z2 r2 s2 hz2 rx2 h2 => ?_⟩
  have rx3 := fw Z2 H2 s2 [w] [r2] hz2 rx2
  obtain ⟨d, e1, h3⟩ := look_ok h2
  obtain ⟨e, e2, h4⟩ := look_ok h3
  obtain ⟨v', ev, rv⟩ := rx3.look (k := 0) rfl e1
  obtain ⟨w', ew, rw'⟩ := rx3.look (k := 1) rfl e2
  cases ev; cases ew
  exact ⟨Z2, d, e, _, rx3.rel0.zh, rv, rw', h4, fun u H' Z' r n hq => q u H' Z' r s2 ((hz.trans hz2).trans n.hz) (rx3.rel0.new n) hq⟩
theorem pf_op {op : Operator} {g : V2} (ho : OpR X (binaryOp op) (rF2 X.K g)) (ha : PF X L a fa) (hb : PF X L b fb) : PF X L (.BinOp a op b pos) (fOp g fa fb) := PE_imp (pe_op ho ha hb) fun _ _ _ => fOp_ok
theorem pf_cmp {op : CmpOp} {g : V2} (ho : OpR X (compareOp op) (rF2 X.K g)) (ha : PF X L a fa) (hb : PF X L b fb) (hm : behindInMarks op b = false) : PF X L (.Compare a [op] [b] pos) (fOp g fa fb) := PE_imp (pe_cmpR ho ha hb hm) fun _ _ _ => fOp_ok
theorem fUn_ok {g : V1} {σ : St} {H : Hp} {Q : VK} (h : liftE X L (fUn g fa) σ H Q) : tUn (rF1 X.K g) (liftE X L fa) σ H Q := by
  obtain ⟨Z, Y, s, Xf, Qf, r, k, xo, h, q⟩ := h
  refine ⟨Z, Y, s, Xf, _, r, k, xo, h, fun v H1 Z1 r1 s1 hz rx h1 => ?_⟩
  obtain ⟨d, e1, h3⟩ := look_ok h1
  obtain ⟨v', ev, rv⟩ := rx.look (k := 0) rfl e1
  cases ev
  exact ⟨Z1, d, _, rx.rel0.zh, rv, h3, fun u H' Z' r n hq => q u H' Z' r s1 (hz.trans n.hz) (rx.rel0.new n) hq⟩
theorem pf_un {op : UnaryOp} {g : V1} (ho : UnR X (unaryOp op) (rF1 X.K g)) (ha : PF X L a fa) : PF X L (.UnaryOp op a pos) (fUn g fa) := PE_imp (pe_un ho ha) fun _ _ _ => fUn_ok
theorem pf_ix {g : V2} (hr : IxR X (rF2 X.K g)) (ha : PF X L a fa) (hb : PF X L b fb) (hs : PlainIx b := by exact fun _ _ => rfl) : PF X L (.Subscript a b pos) (fOp g fa fb) := PE_imp (pe_ix hr ha hb hs) fun _ _ _ => fOp_ok
end
end Hs
namespace Hs
open PySem PySem.Spec PyProof.Rows L2
section
variable {X : Cx} {L : Lv} {e a b c : Expr} {es : List Expr} {fa fb fc : FE} {ft fu : FT} {fr : FA} {pos p : Pos}
theorem isB_ok {r : R} {k : Bool → Prop} (h : isB r k) : ∃ c, r = .d (.bool c) ∧ k c := by
  cases r with
  | d x =>
    cases x with
    | bool c => exact ⟨c, rfl, h⟩
    | _ => exact h.elim
  | _ => exact h.elim
theorem RelX.vd {K : PySem.W.Frag} {Z Y H : Hp} {σ : St} {s : S} {v : V} {x : D} (r : RelX K Z Y H σ s [v] [.d x]) : Rp K Z v x := by
  have q := RelX.rps (ds := [x]) r
  cases q with
  | cons h _ => exact h
theorem RelX.vb {K : PySem.W.Frag} {Z Y H : Hp} {σ : St} {s : S} {v : V} {c : Bool} (r : RelX K Z Y H σ s [v] [.d (.bool c)]) : v = .bl c := by
  have q := r.vd
  cases q
  rfl
theorem RelX.vi {K : PySem.W.Frag} {Z Y H : Hp} {σ : St} {s : S} {v : V} {c : Int} (r : RelX K Z Y H σ s [v] [.d (.int c)]) : v = .int c := by
  have q := r.vd
  cases q
  rfl
theorem pf_one {op} (h : PF X L a fa) : PF X L (.BoolOp op [a] pos) fa := pe_one h
theorem pf_and {rest : List Expr} (ha : PF X L a fa) (hb : PF X L (.BoolOp .And (b :: rest) pos) fb) : PF X L (.BoolOp .And (a :: b :: rest) pos) (fAndV fa fb) := PE_imp (pe_and ha hb) fun σ H Q ⟨Z, Y, s, Xf, Qf, r, k, xo, h, q⟩ => by
  refine ⟨Z, Y, s, Xf, _, r, k, xo, h, fun v H1 Z1 r1 s1 hz rx h1 => ?_⟩
  obtain ⟨c, rfl, h2⟩ := isB_ok h1
  refine ⟨c, rx.vb, ?_⟩
  cases c with
  | true => exact ⟨Z1, Y, s1, Xf, _, rx.rel0, k, xo.z hz, h2, fun w H2 Z2 r2 s2 hz2 rx2 hq => q w H2 Z2 r2 s2 (hz.trans hz2) rx2 hq⟩
  | false => exact q _ H1 Z1 _ s1 hz (.d rx.rel0 (.bl false)) h2
theorem pf_not (ha : PF X L a fa) : PF X L (.UnaryOp .Not a pos) (fNotV fa) := PE_imp (pe_not ha) fun σ H Q ⟨Z, Y, s, Xf, Qf, r, k, xo, h, q⟩ => by
  refine ⟨Z, Y, s, Xf, _, r, k, xo, h, fun v H1 Z1 r1 s1 hz rx h1 => ?_⟩
  obtain ⟨c, rfl, h2⟩ := isB_ok h1
  exact ⟨c, rx.vb, q _ H1 Z1 _ s1 hz (.d rx.rel0 (.bl _)) h2⟩
theorem pft_B (h : PF X L e fa) (he : ∀ whole, isTrue e X.env whole = (do let v ← whole; standAt e.pos; holding [v] (truthy v)) := by intro _; rfl) : PFT X L e (fB fa) := PT_imp (pt_val h he) fun σ H Q ⟨Z, Y, s, Xf, Qf, r, k, xo, h, q⟩ => by
  refine ⟨Z, Y, s, Xf, _, r, k, xo, h, fun v H1 Z1 r1 s1 hz rx h1 => ?_⟩
  obtain ⟨c, rfl, h2⟩ := isB_ok h1
  exact ⟨c, rx.vb, q _ H1 Z1 s1 hz rx.rel0 h2⟩
theorem pft_cmp {op : CmpOp} {g : V2} (ho : OpR X (compareOp op) (rF2 X.K g)) (ha : PF X L a fa) (hb : PF X L b fb) (hm : behindInMarks op b = false) : PFT X L (.Compare a [op] [b] pos) (fB (fOp g fa fb)) := PT_imp (pt_cmpR ho ha hb hm) fun σ H Q ⟨Z, Y, s, Xf, Qf, r, k, xo, h, q⟩ => by
  refine fOp_ok ⟨Z, Y, s, Xf, _, r, k, xo, h, fun v H1 Z1 r1 s1 hz rx h1 => ?_⟩
  obtain ⟨c, rfl, h2⟩ := isB_ok h1
  exact ⟨c, rx.vb, q _ H1 Z1 s1 hz rx.rel0 h2⟩
theorem pfw_and1 (ha : PFT X L a ft) : PFW X L (.BoolOp .And [a] pos) ft := pw_and1 ha
theorem pfw_or1 (ha : PFT X L a ft) : PFW X L (.BoolOp .Or [a] pos) ft := pw_or1 ha
theorem pfw_and {rest : List Expr} (ha : PFT X L a ft) (hb : PFW X L (.BoolOp .And (b :: rest) pos) fu) : PFW X L (.BoolOp .And (a :: b :: rest) pos) (fAnd ft fu) := PW_imp (pw_and ha hb) fun σ H Q ⟨Z, Y, s, Xf, Qf, r, k, xo, h, q⟩ => by
  refine ⟨Z, Y, s, Xf, _, r, k, xo, h, fun d H1 Z1 s1 hz rl h1 => ?_⟩
  cases d with
  | true => exact ⟨Z1, Y, s1, Xf, _, rl, k, xo.z hz, h1, fun w H2 Z2 s2 hz2 rx2 hq => q w H2 Z2 s2 (hz.trans hz2) rx2 hq⟩
  | false => exact q _ H1 Z1 s1 hz rl h1
theorem pfw_or {rest : List Expr} (ha : PFT X L a ft) (hb : PFW X L (.BoolOp .Or (b :: rest) pos) fu) : PFW X L (.BoolOp .Or (a :: b :: rest) pos) (fOr ft fu) := PW_imp (pw_or ha hb) fun σ H Q ⟨Z, Y, s, Xf, Qf, r, k, xo, h, q⟩ => by
  refine ⟨Z, Y, s, Xf, _, r, k, xo, h, fun d H1 Z1 s1 hz rl h1 => ?_⟩
  cases d with
  | false => exact ⟨Z1, Y, s1, Xf, _, rl, k, xo.z hz, h1, fun w H2 Z2 s2 hz2 rx2 hq => q w H2 Z2 s2 (hz.trans hz2) rx2 hq⟩
  | true => exact q _ H1 Z1 s1 hz rl h1
theorem pft_W (h : PFW X L e ft) : PFT X L e ft := PW.pt h
theorem pft_not (ha : PFT X L a ft) : PFT X L (.UnaryOp .Not a pos) (fNot ft) := PT_imp (pt_not ha) fun σ H Q ⟨Z, Y, s, Xf, Qf, r, k, xo, h, q⟩ =>
  ⟨Z, Y, s, Xf, _, r, k, xo, h, fun d H1 Z1 s1 hz rl h1 => q _ H1 Z1 s1 hz rl h1⟩
theorem RelX.app2 {K : PySem.W.Frag} {Z Y H : Hp} {σ : St} {s : S} {v w : V} {r q : R} (x : RelX K Z Y H σ s [v, w] [r, q]) : RelX K Z Y H σ s [w] [q] := by
  refine ⟨?_, x.l1, rfl, fun k i h => ?_⟩
  · refine x.rel.re (fun k => if k < σ.length then some k else if k = σ.length then some (k + 1) else none) (by have := x.l1; simp [this]) (fun k => ?_) (fun k k' j h h' => ?_)
    · have hl := x.l1
      by_cases h1 : k < σ.length
      · simp only [if_pos h1]
        exact ⟨by rw [getD_app_lt (by omega), getD_app_lt (by omega)], by rw [getD_app_lt h1, getD_app_lt h1]⟩
      · simp only [if_neg h1]
        by_cases h2 : k = σ.length
        · simp only [if_pos h2]
          subst h2
          refine ⟨?_, ?_⟩
          · rw [getD_app_ge (by omega), getD_app_ge (by omega)]
            have e1 : σ.length - s.length = 0 := by omega
            have e2 : σ.length + 1 - s.length = 1 := by omega
            rw [e1, e2]; rfl
          · rw [getD_app_ge (Nat.le_refl _), getD_app_ge (Nat.le_succ _)]
            have e1 : σ.length - σ.length = 0 := by omega
            have e2 : σ.length + 1 - σ.length = 1 := by omega
            rw [e1, e2]; rfl
        · simp only [if_neg h2]
          exact .inl (getD_out (by simp; omega))
    · by_cases a1 : k < σ.length
      · rw [if_pos a1] at h
        by_cases b1 : k' < σ.length
        · rw [if_pos b1] at h'; cases h; cases h'; rfl
        · rw [if_neg b1] at h'
          by_cases b2 : k' = σ.length
          · rw [if_pos b2] at h'; cases h; cases h'; omega
          · rw [if_neg b2] at h'; cases h'
      · rw [if_neg a1] at h
        by_cases a2 : k = σ.length
        · rw [if_pos a2] at h
          by_cases b1 : k' < σ.length
          · rw [if_pos b1] at h'; cases h; cases h'; omega
          · rw [if_neg b1] at h'
            by_cases b2 : k' = σ.length
            · omega
            · rw [if_neg b2] at h'; cases h'
        · rw [if_neg a2] at h; cases h
  · cases k with
    | zero => exact x.top 1 i h
    | succ k => simp at h
theorem fChain_ok {g g' : V2} {σ : St} {H : Hp} {Q : VK} (h : liftE X L (fChain g g' fa fb fc) σ H Q) : tChain (rF2 X.K g) (rF2 X.K g') (liftE X L fa) (liftE X L fb) (liftE X L fc) σ H Q := by
  obtain ⟨Z, Y, s, Xf, Qf, r, k, xo, h, q⟩ := h
  refine ⟨Z, Y, s, Xf, _, r, k, xo, h, fun v H1 Z1 r1 s1 hz rx h1 => ?_⟩
  obtain ⟨Y', hy, rl, bk, fw⟩ := rx.frame
  refine ⟨Z1, Y', s1, Xf, _, rl, k, (xo.z hz).mono (Same.refl _) bk, h1, fun w H2 Z2 r2 s2 hz2 rx2 h2 => ?_⟩
  have rx3 := fw Z2 H2 s2 [w] [r2] hz2 rx2
  obtain ⟨d, e1, h3⟩ := look_ok h2
  obtain ⟨e, e2, h4⟩ := look_ok h3
  obtain ⟨v', ev, rv⟩ := rx3.look (k := 0) rfl e1
  obtain ⟨w', ew, rw'⟩ := rx3.look (k := 1) rfl e2
  cases ev; cases ew
  refine ⟨Z2, d, e, _, rx3.rel0.zh, rv, rw', h4, fun u H3 Z3 r3 n hq => ?_⟩
  obtain ⟨c, rfl, h5⟩ := isB_ok hq
  have uv : u = .bl c := by have := n.val; cases this; rfl
  refine ⟨c, uv, ?_⟩
  have rx4 : RelX X.K Z3 Y H3 σ s2 [w] [r2] := by
    have y := rx3.app2
    exact ⟨y.rel.grow n.hh n.hz n.zh n.old, y.l1, y.l2, y.top⟩
  cases c with
  | false => exact q _ H3 Z3 _ s2 ((hz.trans hz2).trans n.hz) (.d rx4.rel0 (.bl false)) h5
  | true =>
    obtain ⟨Y2, hy2, rl2, bk2, fw2⟩ := rx4.frame
    refine ⟨Z3, Y2, s2, Xf, _, rl2, k, (xo.z ((hz.trans hz2).trans n.hz)).mono (Same.refl _) bk2, h5, fun x H4 Z4 r4 s4 hz4 rx5 h6 => ?_⟩
    have rx6 := fw2 Z4 H4 s4 [x] [r4] hz4 rx5
    obtain ⟨d', e3, h7⟩ := look_ok h6
    obtain ⟨e', e4, h8⟩ := look_ok h7
    obtain ⟨v3, ev3, rv3⟩ := rx6.look (k := 0) rfl e3
    obtain ⟨w3, ew3, rw3⟩ := rx6.look (k := 1) rfl e4
    cases ev3; cases ew3
    exact ⟨Z4, d', e', _, rx6.rel0.zh, rv3, rw3, h8, fun u5 H5 Z5 r5 n5 hq5 => q u5 H5 Z5 r5 s4 ((((hz.trans hz2).trans n.hz).trans hz4).trans n5.hz) (rx6.rel0.new n5) hq5⟩
theorem pf_chain {op op' : CmpOp} {g g' : V2} (ho : OpR X (compareOp op) (rF2 X.K g)) (ho' : OpR X (compareOp op') (rF2 X.K g')) (ha : PF X L a fa) (hb : PF X L b fb) (hc : PF X L c fc)
    (hm : lastMarks [op, op'] [b, c] = false := by with_unfolding_all rfl) : PF X L (.Compare a [op, op'] [b, c] pos) (fChain g g' fa fb fc) := PE_imp (pe_chain ho ho' ha hb hc hm) fun _ _ _ => fChain_ok
variable {st : Stmt} {rest : List Stmt} {f1 f2 : FS}
theorem pfs_nil : PFSs X L [] fNext := PSs_imp pss_nil fun D σ H ⟨Z, Y, s, Ef, r, k, h, eo⟩ => eo.nx σ H Z s (Same.refl _) k r h
theorem pfs_cons (h1 : PFS X L st f1) (h2 : PFSs X L rest f2) : PFSs X L (st :: rest) (fSeq f1 f2) := PSs_imp (pss_cons h1 h2) fun D σ H ⟨Z, Y, s, Ef, r, k, h, eo⟩ =>
  ⟨Z, Y, s, _, r, k, h, ⟨fun σ' H' Z' s' hz k' r' h' => ⟨Z', Y, s', Ef, r', k', h', eo.z hz⟩, eo.rt, eo.bk, eo.ct, eo.xx⟩⟩
theorem pfs_one (h1 : PFS X L st f1) : PFSs X L [st] f1 := pss_one h1
theorem pfs_break : PFS X L (.Break pos) fBreak := PS_imp ps_break fun D σ H ⟨Z, Y, s, Ef, r, k, h, eo⟩ => eo.bk σ H Z s (Same.refl _) k r h
theorem pfs_expr (he : PF X L e fa) (hs : swapsWith e none pos.line X.env = pure false := by rfl) : PFS X L (.Expr e pos) (fDrop fa) := PS_imp (ps_expr he hs) fun D σ H ⟨Z, Y, s, Ef, r, k, h, eo⟩ =>
  ⟨Z, Y, s, Ef.xx, _, r, k, eo.xx, h, fun v H1 Z1 r1 s1 hz rx h1 => eo.nx σ H1 Z1 s1 hz k rx.rel0 h1⟩
theorem pfs_ret (he : PF X L e fa) : PFS X L (.Return (some e) pos) (fRet fa) := PS_imp (ps_ret he) fun D σ H ⟨Z, Y, s, Ef, r, k, h, eo⟩ =>
  ⟨Z, Y, s, Ef.xx, _, r, k, eo.xx, h, fun v H1 Z1 r1 s1 hz rx h1 => eo.rt v σ H1 Z1 r1 s1 hz k rx h1⟩
theorem pfs_if {sa sb : List Stmt} (hc : PFT X L c ft) (ha : PFSs X L sa f1) (hb : PFSs X L sb f2) : PFS X L (.If c sa sb pos) (fIfS ft f1 f2) := PS_imp (ps_if hc ha hb) fun D σ H ⟨Z, Y, s, Ef, r, k, h, eo⟩ => by
  refine ⟨Z, Y, s, Ef.xx, _, r, k, eo.xx, h, fun d H1 Z1 s1 hz rl h1 => ?_⟩
  cases d with
  | true => exact ⟨Z1, Y, s1, Ef, rl, k, h1, eo.z hz⟩
  | false => exact ⟨Z1, Y, s1, Ef, rl, k, h1, eo.z hz⟩
theorem Lv.keeps_set {σ : St} {i : Nat} {v : Option V} (k : L.keeps σ) (hi : i ∉ L.io) : L.keeps (σ.set i v) := ⟨by rw [List.length_set]; exact k.1, fun j hj => by
  rw [getD_set_ne (fun z : i = j => hi (by rw [z]; exact hj))]
  exact k.2 j hj⟩
/-- the last slot put into another one -/
theorem Rel.put {K : PySem.W.Frag} {Z Y H : Hp} {σ : St} {s : S} {v : V} {w : SV} (r : Rel K Z Y H (σ ++ [some v]) (s ++ [w])) (hl : σ.length = s.length) (i : Nat) : Rel K Z Y H (σ.set i (some v)) (s.set i w) := by
  by_cases hi : i < σ.length
  · refine r.re (fun k => if k < σ.length then (if k = i then some σ.length else some k) else none) (by simp [hl]) (fun k => ?_) (fun k k' j h h' => ?_)
    · by_cases h1 : k < σ.length
      · simp only [if_pos h1]
        by_cases h2 : k = i
        · subst h2
          simp only [if_pos rfl]
          refine ⟨?_, ?_⟩
          · rw [getD_set_self (by omega), getD_app_ge (by omega), hl, Nat.sub_self]; rfl
          · rw [getD_set_self hi, getD_app_ge (Nat.le_refl _), Nat.sub_self]; rfl
        · simp only [if_neg h2]
          exact ⟨by rw [getD_set_ne (Ne.symm h2), getD_app_lt (by omega)], by rw [getD_set_ne (Ne.symm h2), getD_app_lt h1]⟩
      · simp only [if_neg h1]
        exact .inl (getD_out (by simp; omega))
    · by_cases a1 : k < σ.length
      · rw [if_pos a1] at h
        by_cases b1 : k' < σ.length
        · rw [if_pos b1] at h'
          by_cases a2 : k = i
          · by_cases b2 : k' = i
            · omega
            · rw [if_pos a2] at h; rw [if_neg b2] at h'; cases h; cases h'; omega
          · rw [if_neg a2] at h
            by_cases b2 : k' = i
            · rw [if_pos b2] at h'; cases h; cases h'; omega
            · rw [if_neg b2] at h'; cases h; cases h'; rfl
        · rw [if_neg b1] at h'; cases h'
      · rw [if_neg a1] at h; cases h
  · rw [List.set_eq_of_length_le (by omega), List.set_eq_of_length_le (by omega)]
    exact r.take hl
/-- what has come, stored -/
theorem putR_ok {K : PySem.W.Frag} {Z Y H : Hp} {σ : St} {s : S} {v : V} {r : R} {i : Nat} {k : S → Prop} (rx : RelX K Z Y H σ s [v] [r]) (h : putR i r s k) : ∃ Z' s', Same Z Z' ∧ Rel K Z' Y H (σ.set i (some v)) s' ∧ k s' := by
  cases r with
  | d x => exact ⟨Z, _, Same.refl _, Rel.put rx.rel rx.l1 i, h⟩
  | own w => exact ⟨Z, _, Same.refl _, Rel.put rx.rel rx.l1 i, h⟩
  | top j =>
    unfold putR at h
    dsimp only at h
    cases e : asD (s.getD j .no) with
    | none => rw [e] at h; exact h.elim
    | some x =>
      rw [e] at h
      have h' : frz (.top j) s fun d s' => k (s'.set i (.d d)) := by
        unfold frz; dsimp only; rw [e]; exact h
      obtain ⟨Z', d, s', hz, rx', h2⟩ := frz_ok (us := []) (ds := []) (vs := []) (rs := []) rx rfl h'
      exact ⟨Z', _, hz, Rel.put rx'.rel rx'.l1 i, h2⟩
theorem pfs_set {i : Nat} {x : Str} {pos' : Pos} (hN : X.N.Nodup) (he : PF X L e fa) (hi : X.N[i]? = some x := by rfl) (hx : Loc X.env.scope x := by first | exact Or.inl rfl | exact Or.inr rfl) (hio : i ∉ L.io := by exact of_decide_eq_true rfl) (hs : swapsWith e (some (.Name x pos')) pos.line X.env = pure false := by rfl) (hf : X.fn x = true ∨ X.env.scope.names.lookup x = some .local := by first | exact .inl rfl | exact .inr rfl) :
    PFS X L (.Assign [.Name x pos'] e pos) (fAsg i fa) := PS_imp (ps_set hN hi hx he hs hf) fun D σ H ⟨Z, Y, s, Ef, r, k, h, eo⟩ => by
  refine ⟨Z, Y, s, Ef.xx, _, r, k, eo.xx, h, fun v H1 Z1 r1 s1 hz rx h1 => ?_⟩
  obtain ⟨Z2, s2, hz2, rl2, h2⟩ := putR_ok rx h1
  exact eo.nx _ H1 Z2 s2 (hz.trans hz2) (L.keeps_set k hio) rl2 h2
/-- only the slots ws differ -/
def Only (ws : List Nat) (σ σ' : St) : Prop := σ'.length = σ.length ∧ ∀ j : Nat, j ∉ ws → σ'[j]? = σ[j]?
theorem Only.refl {ws : List Nat} {σ : St} : Only ws σ σ := ⟨rfl, fun _ _ => rfl⟩
theorem Only.trans {ws : List Nat} {σ σ1 σ2 : St} (a : Only ws σ σ1) (b : Only ws σ1 σ2) : Only ws σ σ2 := ⟨b.1.trans a.1, fun j h => (b.2 j h).trans (a.2 j h)⟩
theorem Only.set {ws : List Nat} {σ : St} {i : Nat} {v : Option V} (h : i ∈ ws) : Only ws σ (σ.set i v) := ⟨by simp, fun j hj => List.getElem?_set_ne (fun z : i = j => hj (z ▸ h))⟩
def liftG (X : Cx) (L : Lv) (ws : List Nat) (fg : FG) : TG := fun v σ H Q => ∃ Z Y s d Qf, Rel X.K Z Y H σ s ∧ L.keeps σ ∧ Rp X.K Z v d ∧ fg d s Qf ∧ ∀ σ' s', L.keeps σ' → Only ws σ σ' → Rel X.K Z Y H σ' s' → Qf s' → Q σ' H
def liftGs (X : Cx) (L : Lv) (ws : List Nat) (fg : List D → S → (S → Prop) → Prop) : TGs := fun vs σ H Q => ∃ Z Y s ds Qf, Rel X.K Z Y H σ s ∧ L.keeps σ ∧ RpAll X.K Z vs ds ∧ fg ds s Qf ∧ ∀ σ' s', L.keeps σ' → Only ws σ σ' → Rel X.K Z Y H σ' s' → Qf s' → Q σ' H
def PFG (X : Cx) (L : Lv) (ws : List Nat) (e : Expr) (fg : FG) : Prop := PG X e (liftG X L ws fg)
def PFGs (X : Cx) (L : Lv) (ws : List Nat) (es : List Expr) (fgs : List FG) : Prop := PGs X es (liftGs X L ws (gTp.gTps fgs))
variable {ws : List Nat}
theorem PG_imp {t t' : TG} (h : PG X e t) (hi : ∀ v σ H Q, t' v σ H Q → t v σ H Q) : PG X e t' := ⟨fun pins s σ H v u Q I r q => h.run pins s σ H v u Q I r (hi v σ H Q q)⟩
theorem PGs_imp {t t' : TGs} (h : PGs X es t) (hi : ∀ v σ H Q, t' v σ H Q → t v σ H Q) : PGs X es t' := ⟨fun pins s σ H v u Q I r q => h.run pins s σ H v u Q I r (hi v σ H Q q)⟩
theorem pfg_nm {i : Nat} {x : Str} (hN : X.N.Nodup) (hi : X.N[i]? = some x := by rfl) (hx : Loc X.env.scope x := by first | exact Or.inl rfl | exact Or.inr rfl) (hio : i ∉ L.io := by exact of_decide_eq_true rfl) (hws : i ∈ ws := by decide) (hf : X.fn x = true ∨ X.env.scope.names.lookup x = some .local := by first | exact .inl rfl | exact .inr rfl) : PFG X L ws (.Name x pos) (gNm i) :=
  PG_imp (pg_name hN hi hx hf) fun v σ H Q ⟨Z, Y, s, d, Qf, r, k, rp, h, q⟩ => q _ _ (L.keeps_set k hio) (.set hws) (Rel.put (r.pushD rp) r.len i) h
theorem pfgs_nil : PFGs X L ws [] [] := PGs_imp pgs_nil fun vs σ H Q ⟨Z, Y, s, ds, Qf, r, k, rp, h, q⟩ => by
  cases rp with
  | nil => exact ⟨rfl, q σ s k .refl r h⟩
  | cons _ _ => exact h.elim
theorem pfgs_cons {fg : FG} {fgs : List FG} (h1 : PFG X L ws e fg) (h2 : PFGs X L ws es fgs) (hs : (assignEach (e :: es) X.env).map (·.2) = assign e X.env :: (assignEach es X.env).map (·.2) := by rfl) : PFGs X L ws (e :: es) (fg :: fgs) :=
  PGs_imp (pgs_cons h1 h2 hs) fun vs σ H Q ⟨Z, Y, s, ds, Qf, r, k, rp, h, q⟩ => by
  cases rp with
  | nil => exact h.elim
  | cons rd ra =>
    refine ⟨_, _, rfl, Z, Y, s, _, _, r, k, rd, h, fun σ1 s1 k1 o1 r1 h1 => ?_⟩
    exact ⟨Z, Y, s1, _, Qf, r1, k1, ra, h1, fun σ2 s2 k2 o2 => q σ2 s2 k2 (o1.trans o2)⟩
/-- a tuple's target takes as many things as it has names -/
def TpLen (fgs : List FG) : Prop := ∀ ds s k, gTp.gTps fgs ds s k → ds.length = fgs.length
theorem tp2 {i j : Nat} : TpLen [gNm i, gNm j] := fun ds s k h => by
  match ds, h with
  | [_, _], _ => rfl
  | [], h => exact h.elim
  | [_], h => exact h.elim
  | _ :: _ :: _ :: _, h => exact h.elim
theorem pfg_tup {x1 : Nat} {fgs : List FG} (hc : X.calm = true) (h : PFGs X L ws es fgs) (hn : (assignEach es X.env).length = fgs.length := by rfl) (hst : (assignEach es X.env).findIdx? (·.1) = none := by rfl)
    (hlen : TpLen fgs) : PFG X L ws (.Tuple es x1 pos) (gTp fgs) :=
  PG_imp (pg_tup hc h hn hst) fun v σ H Q ⟨Z, Y, s, d, Qf, r, k, rp, h, q⟩ => by
  cases rp with
  | tup hs hz ra => exact ⟨_, _, rfl, tupSq (r.zh _ _ hs), (by rw [ra.length]; exact hlen _ _ _ h), Z, Y, s, _, Qf, r, k, ra, h, q⟩
  | _ => exact h.elim
/-- a, b = e -/
theorem pfs_unp {tg : Expr} {fg : FG} (he : PF X L e fa) (hg : PFG X L ws tg fg) (hs : swapsWithSole [tg] e pos.line X.env = pure false := by rfl) (hw : swappedStores [tg] e X.env = pure none := by rfl)
    (h1 : (assignEach [tg] X.env).map (·.2) = [assign tg X.env] := by rfl) : PFS X L (.Assign [tg] e pos) (fUnp fg fa) := PS_imp (ps_asg he hg hs hw h1) fun D σ H ⟨Z, Y, s, Ef, r, k, h, eo⟩ => by
  refine ⟨Z, Y, s, Ef.xx, _, r, k, eo.xx, h, fun v H1 Z1 r1 s1 hz rx h1 => ?_⟩
  obtain ⟨Z2, d, s2, hz2, rx2, h2⟩ := frz_ok (us := []) (ds := []) (vs := []) (rs := []) rx rfl h1
  exact ⟨Z2, Y, s2, d, _, rx2.rel0, k, rx2.vd, h2, fun σ' s' k' _ r' h' => eo.nx σ' H1 Z2 s' (hz.trans hz2) k' r' h'⟩
/-- a, b = e1, e2 -/
theorem pfs_par {i j : Nat} {x y : Str} {px py pt : Pos} {kt k2 : Nat} {pt2 : Pos} (hc : X.calm = true) (hN : X.N.Nodup) (ha : PFA X L [a, b] fr) (hi : X.N[i]? = some x := by rfl) (hj : X.N[j]? = some y := by rfl) (hij : i ≠ j := by decide)
    (hx : X.env.scope.names.lookup x = some .local := by rfl) (hy : X.env.scope.names.lookup y = some .local := by rfl) (hio : i ∉ L.io := by exact of_decide_eq_true rfl) (hjo : j ∉ L.io := by exact of_decide_eq_true rfl)
    (hw : swappedStores [.Tuple [.Name x px, .Name y py] kt pt] (.Tuple [a, b] k2 pt2) X.env = pure (some [x, y]) := by rfl)
    (hs : swapsWithSole [.Tuple [.Name x px, .Name y py] kt pt] (.Tuple [a, b] k2 pt2) pos.line X.env = pure false := by rfl) : PFS X L (.Assign [.Tuple [.Name x px, .Name y py] kt pt] (.Tuple [a, b] k2 pt2) pos) (fPar i j fr) := PS_imp (ps_par hc hN hi hj hij hx hy ha hw hs) fun D σ H ⟨Z, Y, s, Ef, r, k, h, eo⟩ => by
  refine ⟨Z, Y, s, Ef.xx, _, r, k, eo.xx, h, fun vs H1 Z1 rs s1 hz rx hn h1 => ?_⟩
  have hl := rx.l2
  match rs, hn with
  | [r1, r2], _ =>
    match vs, hl with
    | [v, w], _ =>
      obtain ⟨Z2, d1, s2, hz2, rx2, h3⟩ := frz_ok (us := []) (ds := []) (vs := [w]) (rs := [r2]) rx rfl h1
      obtain ⟨Z3, d2, s3, hz3, rx3, h4⟩ := frz_ok (us := [v]) (ds := [d1]) (vs := []) (rs := []) rx2 rfl h3
      refine ⟨v, w, rfl, eo.nx _ H1 Z3 _ ((hz.trans hz2).trans hz3) (L.keeps_set (L.keeps_set k hio) hjo) ?_ h4⟩
      have q := RelX.rps (ds := [d1, d2]) rx3
      cases q with
      | cons q1 q2 =>
        cases q2 with
        | cons q2 _ =>
          have s1' := Rel.put (rx3.rel0.pushD q1) rx3.l1 i
          exact Rel.put (s1'.pushD q2) s1'.len j
end
end Hs
namespace Hs
open PySem PySem.Spec PyProof.Rows L2
section
variable {X : Cx} {L : Lv} {e a b c : Expr} {es : List Expr} {fa fb fc : FE} {ft fu : FT} {fr : FA} {pos p : Pos} {ws : List Nat}
structure Walks (K : PySem.W.Frag) (Z : Hp) (J : It) (xs : List D) : Prop where
  stop : ∀ i H, Same Z H → xs.length ≤ i → J.stop i H
  go : ∀ i H, Same Z H → i < xs.length → J.go i H
  yld : ∀ (i : Nat) H v H' Zc, Same Z Zc → Same Zc H → i < xs.length → J.yld i H v H' → ∃ d Z', xs[i]? = some d ∧ NewR K Zc H Z' H' v (.d d)
def liftI (X : Cx) (L : Lv) (fi : FI) : TI := fun σ H R => ∃ Z Y s Xf Qf, Rel X.K Z Y H σ s ∧ L.keeps σ ∧ XOk X L Z Y Xf ∧ fi Xf s Qf ∧ ∀ J H' Z' s' xs, Same Z Z' → Rel X.K Z' Y H' σ s' → Walks X.K Z' J xs → Qf xs s' → R J H'
def PFI (X : Cx) (L : Lv) (tg e : Expr) (fi : FI) : Prop := PI X tg e (liftI X L fi)
theorem PI_imp {tg : Expr} {t t' : TI} (h : PI X tg e t) (hi : ∀ σ H R, t' σ H R → t σ H R) : PI X tg e t' := ⟨fun pins s σ H R I q => h.run pins s σ H R I (hi σ H R q)⟩
def iSq (K : PySem.W.Frag) (tl : TE) : TI := fun σ H R => tl σ H fun x H1 => ∃ a, x = .ref a ∧ (((∃ xs, SqL K H1 a xs) ∧ R (Itl K a) H1) ∨ ((∃ xs, SqT K H1 a xs) ∧ R (Itt K a) H1))
theorem pi_sq {tg l : Expr} {tl : TE} (hl : PE X l tl) : PI X tg l (iSq X.K tl) := by
  refine ⟨fun pins s σ H R I h => ?_⟩
  refine thn (hl.run pins s σ H _ I h) fun v s1 ⟨x, H1, I1, r1, q1⟩ => ?_
  obtain ⟨a, e, q⟩ := q1
  subst e
  cases r1
  have one : ∀ {b : Addr}, b ∈ [s1.heap.objs.size] → b = s1.heap.objs.size := fun hb => by simpa using hb
  rcases q with ⟨⟨xs, hq⟩, q⟩ | ⟨⟨xs, hq⟩, q⟩
  · obtain ⟨its, rv, p, hz⟩ := I1.list hq
    refine wpAny_pyIter_list p.isList ?_
    refine ⟨s1.heap.objs.size, [s1.heap.objs.size], _, _, H1, rfl, I1.kept (t' := s1.toks) fun b o e => Heap.get?_push_of_some _ e, turn_list a _, ⟨_, Heap.get?_push_size _ rfl, rfl, rfl⟩, fun b hb => ?_, q⟩
    rw [one hb]
    exact I1.fpOk (Nat.le_refl _) (I1.hok.fresh (Nat.le_refl _))
  · obtain ⟨its, rv, p, hz⟩ := I1.tuple hq
    refine wpAny_pyIter_tuple (show s1.heap.IsTuple a its.toArray from p) ?_
    refine ⟨s1.heap.objs.size, [s1.heap.objs.size], _, _, H1, rfl, I1.kept (t' := s1.toks) fun b o e => Heap.get?_push_of_some _ e, turn_tuple a _, ⟨_, Heap.get?_push_size _ rfl, rfl, rfl⟩, fun b hb => ?_, q⟩
    rw [one hb]
    exact I1.fpOk (Nat.le_refl _) (I1.hok.fresh (Nat.le_refl _))
theorem walks_list {K : PySem.W.Frag} {Z : Hp} {a : Addr} {vs : List V} {xs : List D} (h : SqL K Z a vs) (r : RpAll K Z vs xs) : Walks K Z (Itl K a) xs where
  stop := fun i H e hi => ⟨vs, e.seq h, by rw [r.length]; exact hi⟩
  go := fun i H e hi => ⟨vs, vs[i]'(by rw [r.length]; exact hi), e.seq h, by simp⟩
  yld := fun i H v H' Zc e1 e2 hi ⟨eh, hv⟩ => by
    subst eh
    obtain ⟨d, hd, rd⟩ := r.getV (hv vs ((e1.trans e2).seq h))
    exact ⟨d, Zc, hd, .d e2 (rd.same e1)⟩
theorem walks_tup {K : PySem.W.Frag} {Z : Hp} {a : Addr} {vs : List V} {xs : List D} (h : SqT K Z a vs) (r : RpAll K Z vs xs) : Walks K Z (Itt K a) xs where
  stop := fun i H e hi => ⟨vs, same_sqT e h, by rw [r.length]; exact hi⟩
  go := fun i H e hi => ⟨vs, vs[i]'(by rw [r.length]; exact hi), same_sqT e h, by simp⟩
  yld := fun i H v H' Zc e1 e2 hi ⟨eh, hv⟩ => by
    subst eh
    obtain ⟨d, hd, rd⟩ := r.getV (hv vs (same_sqT (e1.trans e2) h))
    exact ⟨d, Zc, hd, .d e2 (rd.same e1)⟩
theorem rangeD_get {lo : Int} {n i : Nat} (h : i < n) : (rangeD lo n)[i]? = some (.int (lo + (i : Int))) := by
  unfold rangeD
  rw [List.getElem?_map, List.getElem?_range h]; rfl
theorem rangeD_len {lo : Int} {n : Nat} : (rangeD lo n).length = n := by unfold rangeD; rw [List.length_map, List.length_range]
theorem walks_range {K : PySem.W.Frag} {Z : Hp} {lo : Int} {n : Nat} : Walks K Z (Itr lo n) (rangeD lo n) where
  stop := fun i H e hi => by rw [rangeD_len] at hi; exact hi
  go := fun i H e hi => by rw [rangeD_len] at hi; exact hi
  yld := fun i H v H' Zc e1 e2 hi ⟨eh, hv⟩ => by
    subst eh hv
    rw [rangeD_len] at hi
    exact ⟨_, Zc, rangeD_get hi, .d e2 (.int _)⟩
theorem pfi_seq {tg : Expr} (he : PF X L e fa) : PFI X L tg e (iSeq fa) := PI_imp (pi_sq he) fun σ H R ⟨Z, Y, s, Xf, Qf, r, k, xo, h, q⟩ => by
  refine ⟨Z, Y, s, Xf, _, r, k, xo, h, fun v H1 Z1 r1 s1 hz rx h1 => ?_⟩
  obtain ⟨Z2, d, s2, hz2, rx2, h2⟩ := frz_ok (us := []) (ds := []) (vs := []) (rs := []) rx rfl h1
  have rv := rx2.vd
  cases rv with
  | lst hs hl ra => exact ⟨_, rfl, .inl ⟨⟨_, .inl (same_rd rx2.rel0.zh hs)⟩, q _ H1 Z2 s2 _ (hz.trans hz2) rx2.rel0 (walks_list (.inl hs) ra) h2⟩⟩
  | tup hs hl ra => exact ⟨_, rfl, .inr ⟨⟨_, tupSq (rx2.rel0.zh _ _ hs)⟩, q _ H1 Z2 s2 _ (hz.trans hz2) rx2.rel0 (walks_tup (tupSq hs) ra) h2⟩⟩
  | _ => exact h2.elim
theorem pfi_range1 {tg : Expr} (hg : Gl X "range") (hm : X.mg "range" = none) (ha : PFA X L [a] fr) (hs : starEach [a] X.env = [(false, eval a X.env)] := by rfl) : PFI X L tg (.Call (.Name "range" p) [a] [] pos) (iRange1 fr) :=
  PI_imp (pi_range1 hg hm ha hs) fun σ H R ⟨Z, Y, s, Xf, Qf, r, k, xo, h, q⟩ => by
  refine ⟨Z, Y, s, Xf, _, r, k, xo, h, fun vs H1 Z1 rs s1 hz rx hn h1 => ?_⟩
  split at h1
  · rename_i j
    obtain ⟨hj, h2⟩ := h1
    have rv := RelX.rps (ds := [.int j]) rx
    cases rv with
    | cons r1 r2 =>
      cases r1; cases r2
      exact ⟨j, rfl, hj.1, hj.2, q _ H1 Z1 s1 _ hz rx.rel0 walks_range h2⟩
  · exact h1.elim
theorem pfi_range2 {tg : Expr} (hg : Gl X "range") (hm : X.mg "range" = none) (ha : PFA X L [a, b] fr) (hs : starEach [a, b] X.env = [(false, eval a X.env), (false, eval b X.env)] := by rfl) (hs2 : starEach [b] X.env = [(false, eval b X.env)] := by rfl) : PFI X L tg (.Call (.Name "range" p) [a, b] [] pos) (iRange2 fr) :=
  PI_imp (pi_range2 hg hm ha hs hs2) fun σ H R ⟨Z, Y, s, Xf, Qf, r, k, xo, h, q⟩ => by
  refine ⟨Z, Y, s, Xf, _, r, k, xo, h, fun vs H1 Z1 rs s1 hz rx hn h1 => ?_⟩
  split at h1
  · rename_i i j
    obtain ⟨hi, hj, h2⟩ := h1
    have rv := RelX.rps (ds := [.int i, .int j]) rx
    cases rv with
    | cons r1 r2 =>
      cases r2 with
      | cons r2 r3 =>
        cases r1; cases r2; cases r3
        exact ⟨i, j, rfl, ⟨hi.1, hi.2, hj.1, hj.2⟩, q _ H1 Z1 s1 _ hz rx.rel0 walks_range h2⟩
  · exact h1.elim
theorem wipe_get (σ : St) : ∀ (vs : List Nat) (j : Nat), (wipe σ vs).getD j none = if j ∈ vs then none else σ.getD j none
  | [], j => by simp [wipe]
  | v :: vs, j => by
    unfold wipe
    by_cases h : v = j
    · subst h
      simp only [List.mem_cons, true_or, if_true]
      by_cases hv : v < (wipe σ vs).length
      · exact getD_set_self hv
      · exact getD_out (by simpa using hv)
    · rw [getD_set_ne h, wipe_get σ vs j]
      have : (j ∈ v :: vs) ↔ j ∈ vs := by simp [Ne.symm h]
      simp only [this]
theorem wipeS_len : ∀ (vs : List Nat) (s : S), (wipeS s vs).length = s.length
  | [], s => rfl
  | v :: vs, s => by unfold wipeS; rw [wipeS_len vs, List.length_set]
theorem wipeS_get : ∀ (vs : List Nat) (s : S) (j : Nat), (wipeS s vs).getD j .no = if j ∈ vs then .no else s.getD j .no
  | [], s, j => by simp [wipeS]
  | v :: vs, s, j => by
    unfold wipeS
    rw [wipeS_get vs]
    by_cases hj : j ∈ vs
    · rw [if_pos hj, if_pos (List.mem_cons_of_mem _ hj)]
    · rw [if_neg hj]
      by_cases h : v = j
      · subst h
        rw [if_pos List.mem_cons_self]
        by_cases hv : v < s.length
        · exact getD_set_self hv
        · exact getD_out (by simpa using hv)
      · rw [getD_set_ne h, if_neg (by simp [hj, Ne.symm h])]
theorem Rel.wipeS {K : PySem.W.Frag} {Z Y H : Hp} {σ : St} {s : S} (r : Rel K Z Y H σ s) (vs : List Nat) : Rel K Z Y H σ (wipeS s vs) :=
  r.re (fun k => if k ∈ vs then none else some k) (by rw [wipeS_len]; exact r.len) (fun k => by
    by_cases h : k ∈ vs
    · simp only [if_pos h]
      exact .inl (by rw [wipeS_get, if_pos h])
    · simp only [if_neg h]
      exact ⟨by rw [wipeS_get, if_neg h], trivial⟩) (fun k k' j h h' => by
    by_cases a : k ∈ vs
    · rw [if_pos a] at h; cases h
    · by_cases b : k' ∈ vs
      · rw [if_pos b] at h'; cases h'
      · rw [if_neg a] at h; rw [if_neg b] at h'; cases h; cases h'; rfl)
variable {f1 f2 : FS} {wp : List Nat}
theorem pfs_for {tg iter : Expr} {body : List Stmt} {fi : FI} {fg : FG} (hp : PassesOwn (model X.prog X.w) X.A X.env X.xe) (hc : X.calm = true) (hi : PFI X L tg iter fi) (hg : PFG X L ws tg fg) (hb : PFSs X L body f1)
    (hs : ∀ x, foldedSetIterable iter X.env x = pure x := by intro _; rfl) : PFS X L (.For tg iter body [] pos) (fFor fi fg wp f1) := PS_imp (ps_for hp hc hi hg hb hs) fun D σ H ⟨Z, Y, s, Ef, r, k, h, eo⟩ => by
  refine ⟨Z, Y, s, Ef.xx, _, r, k, eo.xx, h, fun J H1 Z1 s1 xs hz rl wk hloop => ?_⟩
  refine ⟨fun i m σ' H' => ∃ Z' s', Same Z1 Z' ∧ Rel X.K Z' Y H' σ' s' ∧ L.keeps σ' ∧ m = xs.length - i ∧ i ≤ xs.length ∧ fLoop fg wp f1 Ef (xs.drop i) s', ⟨xs.length, Z1, _, Same.refl _, rl.wipeS wp, k, rfl, Nat.zero_le _, hloop⟩, ?_⟩
  rintro i m σ' H' ⟨Z', s', hz', r', k', rfl, hle, hl⟩
  by_cases hlt : i < xs.length
  · refine .inr ⟨wk.go i H' (hz'.trans r'.zh) hlt, fun σ2 H2 => ∃ Z2 s2, Same Z' Z2 ∧ Rel X.K Z2 Y H2 σ2 s2 ∧ L.keeps σ2 ∧ fLoop fg wp f1 Ef (xs.drop (i + 1)) (wipeS s2 wp), fun σ2 H2 ⟨Z2, s2, hz2, r2, k2, h2⟩ => ⟨xs.length - (i + 1), by omega, Z2, _, hz'.trans hz2, r2.wipeS wp, k2, rfl, hlt, h2⟩, fun x H2 hy => ?_⟩
    obtain ⟨d, Z2, hd, n⟩ := wk.yld i H' x H2 Z' hz' r'.zh hlt hy
    have ed : xs.drop i = d :: xs.drop (i + 1) := by
      obtain ⟨h1, h2⟩ := List.getElem?_eq_some_iff.mp hd
      rw [List.drop_eq_getElem_cons hlt, h2]
    rw [ed] at hl
    have r2 : Rel X.K Z2 Y H2 σ' s' := r'.grow n.hh n.hz n.zh n.old
    refine ⟨Z2, Y, s', d, _, r2, k', n.val, hl, fun σ3 s3 k3 _ r3 h3 => ?_⟩
    refine ⟨Z2, Y, s3, _, r3, k3, h3, ⟨fun σ4 H4 Z4 s4 hz4 k4 r4 h4 => ⟨Z4, s4, n.hz.trans hz4, r4, k4, h4⟩, fun v σ4 H4 Z4 r0 s4 hz4 k4 rx4 h4 => eo.rt v σ4 H4 Z4 r0 s4 (((hz.trans hz').trans n.hz).trans hz4) k4 rx4 h4,
      fun σ4 H4 Z4 s4 hz4 k4 r4 h4 => eo.nx σ4 H4 Z4 _ (((hz.trans hz').trans n.hz).trans hz4) k4 (r4.wipeS wp) h4, fun σ4 H4 Z4 s4 hz4 k4 r4 h4 => ⟨Z4, s4, n.hz.trans hz4, r4, k4, h4⟩, eo.xx.z ((hz.trans hz').trans n.hz)⟩⟩
  · have ei : i = xs.length := by omega
    subst ei
    rw [List.drop_length] at hl
    exact .inl ⟨wk.stop _ H' (hz'.trans r'.zh) (Nat.le_refl _), eo.nx σ' H' Z' s' (hz.trans hz') k' r' hl⟩
theorem pfs_while {body : List Stmt} (hp : PassesOwn (model X.prog X.w) X.A X.env X.xe) (hc : PFT X L c ft) (hb : PFSs X L body f1) : PFS X L (.While c body [] pos) (fWhile wp ft f1) := PS_imp (ps_while hp hc hb) fun D σ H ⟨Z, Y, s, Ef, r, k, ⟨n, h⟩, eo⟩ => by
  refine ⟨fun m σ' H' => ∃ Z' s', Same Z Z' ∧ Rel X.K Z' Y H' σ' s' ∧ L.keeps σ' ∧ fWhileN wp ft f1 Ef m s', ⟨n, Z, _, Same.refl _, r.wipeS wp, k, h⟩, ?_⟩
  rintro m σ' H' ⟨Z', s', hz', r', k', hl⟩
  cases m with
  | zero => exact hl.elim
  | succ m =>
    refine ⟨Z', Y, s', Ef.xx, _, r', k', eo.xx.z hz', hl, fun d H1 Z1 s1 hz1 r1 h1 => ?_⟩
    cases d with
    | false => exact eo.nx σ' H1 Z1 s1 (hz'.trans hz1) k' r1 h1
    | true =>
      simp only [if_true] at h1 ⊢
      refine ⟨fun σ2 H2 => ∃ Z2 s2, Same Z1 Z2 ∧ Rel X.K Z2 Y H2 σ2 s2 ∧ L.keeps σ2 ∧ fWhileN wp ft f1 Ef m (wipeS s2 wp), fun σ2 H2 ⟨Z2, s2, hz2, r2, k2, h2⟩ => ⟨m, Nat.lt_succ_self m, Z2, _, (hz'.trans hz1).trans hz2, r2.wipeS wp, k2, h2⟩, ?_⟩
      exact ⟨Z1, Y, s1, _, r1, k', h1, ⟨fun σ4 H4 Z4 s4 hz4 k4 r4 h4 => ⟨Z4, s4, hz4, r4, k4, h4⟩, fun v σ4 H4 Z4 r0 s4 hz4 k4 rx4 h4 => eo.rt v σ4 H4 Z4 r0 s4 ((hz'.trans hz1).trans hz4) k4 rx4 h4,
        fun σ4 H4 Z4 s4 hz4 k4 r4 h4 => eo.nx σ4 H4 Z4 _ ((hz'.trans hz1).trans hz4) k4 (r4.wipeS wp) h4, fun σ4 H4 Z4 s4 hz4 k4 r4 h4 => ⟨Z4, s4, hz4, r4, k4, h4⟩, eo.xx.z (hz'.trans hz1)⟩⟩
theorem wipe_only {σ σ' : St} {vs : List Nat} (o : Only vs σ σ') : wipe σ' vs = wipe σ vs := by
  refine List.ext_getElem? fun j => ?_
  have g : ∀ τ : St, (wipe τ vs)[j]? = if j < τ.length then some (if j ∈ vs then none else τ.getD j none) else none := fun τ => by
    by_cases h : j < τ.length
    · rw [if_pos h]
      have q := wipe_get τ vs j
      rw [List.getD_eq_getElem?_getD, List.getElem?_eq_getElem (by rw [wipe_length]; exact h)] at q
      rw [List.getElem?_eq_getElem (by rw [wipe_length]; exact h)]
      exact congrArg some q
    · rw [if_neg h, List.getElem?_eq_none (by rw [wipe_length]; omega)]
  rw [g, g, o.1]
  by_cases h : j ∈ vs
  · simp [h]
  · simp only [h, if_false]
    rw [List.getD_eq_getElem?_getD, List.getD_eq_getElem?_getD, o.2 j h]
theorem wipe_wipe {σ : St} {vs : List Nat} : Only vs σ (wipe σ vs) := ⟨wipe_length σ vs, fun j h => by
  have q := wipe_get σ vs j
  rw [if_neg h, List.getD_eq_getElem?_getD, List.getD_eq_getElem?_getD] at q
  by_cases hj : j < σ.length
  · rw [List.getElem?_eq_getElem (by rw [wipe_length]; exact hj), List.getElem?_eq_getElem hj] at q ⊢
    exact congrArg some q
  · rw [List.getElem?_eq_none (by rw [wipe_length]; omega), List.getElem?_eq_none (by omega)]⟩
/-- the wiped slots hold nothing: whatever stands there -/
theorem Rel.unwipe {K : PySem.W.Frag} {Z Y H : Hp} {σ σ' ts : St} {s us : S} {vs : List Nat} (r : Rel K Z Y H (σ ++ ts) (s ++ us)) (o : Only vs σ σ') (hl : σ.length = s.length) (hn : ∀ j ∈ vs, s.getD j .no = .no) : Rel K Z Y H (σ' ++ ts) (s ++ us) := by
  refine r.re (fun k => if k < σ.length ∧ k ∈ vs then none else some k) (by have := r.len; simp only [List.length_append] at this ⊢; rw [o.1]; exact this) (fun k => ?_) (fun k k' j h h' => ?_)
  · by_cases h : k < σ.length ∧ k ∈ vs
    · simp only [if_pos h]
      exact .inl (by rw [getD_app_lt (by omega)]; exact hn k h.2)
    · simp only [if_neg h]
      refine ⟨trivial, ?_⟩
      by_cases hk : k < σ.length
      · have hv : k ∉ vs := fun z => h ⟨hk, z⟩
        rw [getD_app_lt (by rw [o.1]; exact hk), getD_app_lt hk, List.getD_eq_getElem?_getD, List.getD_eq_getElem?_getD, o.2 k hv]
      · rw [getD_app_ge (by rw [o.1]; omega), getD_app_ge (by omega), o.1]
  · by_cases a1 : k < σ.length ∧ k ∈ vs
    · rw [if_pos a1] at h; cases h
    · by_cases b1 : k' < σ.length ∧ k' ∈ vs
      · rw [if_pos b1] at h'; cases h'
      · rw [if_neg a1] at h; rw [if_neg b1] at h'; cases h; cases h'; rfl
theorem Rel.wipe2 {K : PySem.W.Frag} {Z Y H : Hp} {σ ts : St} {s us : S} (r : Rel K Z Y H (σ ++ ts) (s ++ us)) (hl : σ.length = s.length) (vs : List Nat) : Rel K Z Y H (wipe σ vs ++ ts) (Hs.wipeS s vs ++ us) := by
  refine Rel.unwipe (σ := σ) (vs := vs) ?_ wipe_wipe (by rw [wipeS_len]; exact hl) fun j hj => by rw [wipeS_get, if_pos hj]
  refine r.re (fun k => if k < σ.length ∧ k ∈ vs then none else some k) (by have := r.len; simp only [List.length_append, wipeS_len] at this ⊢; exact this) (fun k => ?_) (fun k k' j h h' => ?_)
  · by_cases h : k < σ.length ∧ k ∈ vs
    · simp only [if_pos h]
      exact .inl (by rw [getD_app_lt (by rw [wipeS_len]; omega), wipeS_get, if_pos h.2])
    · simp only [if_neg h]
      refine ⟨?_, trivial⟩
      by_cases hk : k < σ.length
      · have hv : k ∉ vs := fun z => h ⟨hk, z⟩
        rw [getD_app_lt (by rw [wipeS_len]; omega), getD_app_lt (by omega), wipeS_get, if_neg hv]
      · rw [getD_app_ge (by rw [wipeS_len]; omega), getD_app_ge (by omega), wipeS_len]
  · by_cases a1 : k < σ.length ∧ k ∈ vs
    · rw [if_pos a1] at h; cases h
    · by_cases b1 : k' < σ.length ∧ k' ∈ vs
      · rw [if_pos b1] at h'; cases h'
      · rw [if_neg a1] at h; rw [if_neg b1] at h'; cases h; cases h'; rfl
/-- within a comprehension no error leaves -/
def Lv.in0 (L : Lv) : Lv := { L with E := fun _ _ _ _ => False }
theorem XOk.none {Z Y : Hp} : XOk X L Z Y fun _ _ => False := fun _ _ _ _ _ _ _ _ _ h _ => h.elim
structure PFTs (X : Cx) (L : Lv) (ifs : List Expr) (ft : FT) : Prop where
  h : PTs X ifs (liftT X L ft)
theorem pfts_nil : PFTs X L [] fYes := ⟨⟨fun pins s σ H Q I ⟨Z, Y, s', Xf, Qf, r, k, xo, h, q⟩ => pts_nil.run pins s σ H Q I (q true H Z s' (Same.refl _) r h)⟩⟩
theorem pfts_one {c : Expr} (h : PFT X L c ft) : PFTs X L [c] ft := ⟨pts_one h⟩
theorem fLc_ok {fi : FI} {fg : FG} {vs : List Nat} {σ : St} {H : Hp} {Q : VK} (hv : ∀ j ∈ vs, j ∉ L.io) (h : liftE X L (fLc fi fg vs ft fa) σ H Q) :
    tLc (liftI X L fi) (liftG X L.in0 vs fg) (liftT X L.in0 ft) (liftE X L.in0 fa) vs σ H Q := by
  obtain ⟨Z, Y, s, Xf, Qf, r, k, xo, h, q⟩ := h
  refine ⟨Z, Y, s, Xf, _, r, k, xo, h, fun J H1 Z1 s1 xs hz rl wk ⟨hsz, hcomp⟩ => fun D hD => ?_⟩
  have kw : L.keeps (wipe σ vs) := ⟨by rw [wipe_length]; exact k.1, fun j hj => by
    rw [wipe_get, if_neg (fun z => hv j z hj)]
    exact k.2 j hj⟩
  refine ⟨fun i m H' => ∃ Z' s' acc avs, Same Z1 Z' ∧ Rel X.K Z' Y H' (wipe σ vs ++ [some (.ref D)]) (s' ++ [.l acc]) ∧ s'.length = σ.length ∧ (∀ j ∈ vs, s'.getD j .no = .no) ∧ H' D = some (.lst avs) ∧ avs.length ≤ i ∧ m = xs.length - i ∧ i ≤ xs.length ∧ fComp (fun _ _ => False) fg vs ft fa Qf (xs.drop i) acc s',
    ⟨xs.length, Z1, wipeS s1 vs, [], [], Same.refl _, Rel.wipe2 (rl.newL (vs := []) (xs := []) hD (Nat.zero_le _) .nil) rl.len vs, by rw [wipeS_len]; exact rl.len.symm, fun j hj => by rw [wipeS_get, if_pos hj], upd_same, Nat.le_refl _, rfl, Nat.zero_le _, hcomp⟩, ?_⟩
  rintro i m H' ⟨Z', s', acc, avs, hz', r', hl', hno, hDl, hal, rfl, hle, hl⟩
  have hl'' : (wipe σ vs).length = s'.length := by rw [wipe_length, hl']
  by_cases hlt : i < xs.length
  · refine .inr ⟨wk.go i H' (hz'.trans r'.zh) hlt, fun H2 => ∃ Z2 s2 acc2 avs2, Same Z' Z2 ∧ Rel X.K Z2 Y H2 (wipe σ vs ++ [some (.ref D)]) (s2 ++ [.l acc2]) ∧ s2.length = σ.length ∧ (∀ j ∈ vs, s2.getD j .no = .no) ∧ H2 D = some (.lst avs2) ∧ avs2.length ≤ i + 1 ∧ fComp (fun _ _ => False) fg vs ft fa Qf (xs.drop (i + 1)) acc2 s2,
      fun H2 ⟨Z2, s2, acc2, avs2, hz2, r2, l2, n2, d2, al2, h2⟩ => ⟨xs.length - (i + 1), by omega, Z2, s2, acc2, avs2, hz'.trans hz2, r2, l2, n2, d2, al2, rfl, hlt, h2⟩, fun x H2 hy => ?_⟩
    obtain ⟨d, Z2, hd, n⟩ := wk.yld i H' x H2 Z' hz' r'.zh hlt hy
    have ed : xs.drop i = d :: xs.drop (i + 1) := by
      obtain ⟨h1, h2⟩ := List.getElem?_eq_some_iff.mp hd
      rw [List.drop_eq_getElem_cons hlt, h2]
    rw [ed] at hl
    have r2 : Rel X.K Z2 Y H2 (wipe σ vs ++ [some (.ref D)]) (s' ++ [.l acc]) := r'.grow n.hh n.hz n.zh n.old
    have hD2 : H2 D = some (.lst avs) := n.hh _ _ hDl
    obtain ⟨Y', hy', rl2, back, held⟩ := r2.frame hl''
    have yD : Y' D = some (.lst avs) := by
      obtain ⟨F, p', v', e1, e2, e3, _⟩ := held 0
      cases e1
      exact e3.trans ((rl2.yh _ _ e3).symm.trans hD2)
    have bk : ∀ Z1 H1 σ1 s1, Same Z2 Z1 → Rel X.K Z1 Y' H1 σ1 s1 → Rel X.K Z1 Y H1 σ1 s1 := fun Z1 H1 σ1 s1 hz q => (back Z1 H1 σ1 s1 hz q).take q.len
    refine ⟨Z2, Y', s', d, _, rl2, kw, n.val, hl, fun σ3 s3 k3 o3 r3 h3 => ⟨(wipe_only o3).trans (wipe_only wipe_wipe), ?_⟩⟩
    refine ⟨Z2, Y', s3, fun _ _ => False, _, r3, k3, XOk.none, h3, fun b H3 Z3 s4 hz3 r4 h4 => ?_⟩
    have e34 : wipe σ3 vs = wipe σ vs := (wipe_only o3).trans (wipe_only wipe_wipe)
    cases b with
    | false =>
      have h4 : fComp (fun _ _ => False) fg vs ft fa Qf (xs.drop (i + 1)) acc (Hs.wipeS s4 vs) := h4
      have b4 := back Z3 H3 _ _ hz3 r4
      have w4 := b4.wipe2 r4.len vs
      rw [e34] at w4
      exact ⟨Z3, Hs.wipeS s4 vs, acc, avs, n.hz.trans hz3, w4, by rw [wipeS_len, ← r4.len, o3.1, wipe_length], fun j hj => by rw [wipeS_get, if_pos hj], r4.yh _ _ yD, Nat.le_succ_of_le hal, h4⟩
    | true =>
      have h4 : fa (fun _ _ => False) s4 fun r s3 => frz r s3 fun d s4 => fComp (fun _ _ => False) fg vs ft fa Qf (xs.drop (i + 1)) (acc ++ [d]) (Hs.wipeS s4 vs) := h4
      refine ⟨Z3, Y', s4, fun _ _ => False, _, r4, k3, XOk.none, h4, fun y H5 Z5 r5 s5 hz5 rx5 h5 => ?_⟩
      have hD5 : H5 D = some (.lst avs) := rx5.rel0.yh _ _ yD
      obtain ⟨Z6, d6, s6, hz6, rx6, h6⟩ := frz_ok (us := []) (ds := []) (vs := []) (rs := []) rx5 rfl h5
      have b6 := back Z6 H5 _ _ ((hz3.trans hz5).trans hz6) rx6.rel0
      refine ⟨avs, hD5, Nat.lt_of_le_of_lt hal (Nat.lt_of_lt_of_le hlt hsz), Z6, Hs.wipeS s6 vs, acc ++ [d6], avs ++ [y], ((n.hz.trans hz3).trans hz5).trans hz6, ?_, by rw [wipeS_len, ← rx6.l1, o3.1, wipe_length], fun j hj => by rw [wipeS_get, if_pos hj], upd_same, by rw [List.length_append]; exact Nat.succ_le_succ hal, h6⟩
      have racc : RpAll X.K Z6 avs acc := by
        obtain ⟨F, q⟩ := b6.slot σ3.length
        rw [getD_app_ge (Nat.le_refl _), getD_app_ge (by rw [rx6.l1]; exact Nat.le_refl _), Nat.sub_self, rx6.l1, Nat.sub_self] at q
        obtain ⟨p', v', e1, e2, e3, e4, e5⟩ := q
        cases e1
        rw [hD5] at e3; cases e3
        exact e5
      have w6 := Rel.write (i := σ3.length) (xs' := acc ++ [d6]) (vs' := avs ++ [y]) b6 (by rw [getD_app_ge (by rw [rx6.l1]; exact Nat.le_refl _), rx6.l1, Nat.sub_self]; rfl) (by rw [getD_app_ge (Nat.le_refl _), Nat.sub_self]; rfl)
        (by rw [List.length_append]; exact Nat.succ_le_of_lt (Nat.lt_of_le_of_lt hal (Nat.lt_of_lt_of_le hlt hsz))) (racc.append (.cons rx6.vd .nil))
      rw [List.set_append_right _ _ (by rw [rx6.l1]; exact Nat.le_refl _), rx6.l1, Nat.sub_self] at w6
      have w7 := Rel.wipe2 w6 rx6.l1 vs
      rw [e34] at w7
      exact w7
  · have ei : i = xs.length := by omega
    subst ei
    rw [List.drop_length] at hl
    have r9 : Rel X.K Z' Y H' (σ ++ [some (.ref D)]) (s' ++ [.l acc]) := Rel.unwipe r' (vs := vs) ⟨(wipe_length σ vs).symm, fun j hj => (wipe_wipe.2 j hj).symm⟩ hl'' hno
    exact .inl ⟨wk.stop _ H' (hz'.trans r'.zh) (Nat.le_refl _), q _ H' Z' _ s' (hz.trans hz') (.own hl'.symm r9) hl⟩
end
end Hs
namespace Hs
open PySem PySem.Spec PyProof.Rows L2
section
variable {X : Cx} {L : Lv} {e a b c : Expr} {es : List Expr} {fa fb fc : FE} {ft fu : FT} {fr : FA} {pos p : Pos} {ws : List Nat}
theorem pf_lc {elt tg iter : Expr} {ifs : List Expr} {scope : Scope} {own : List (Str × Nat)} {fi : FI} {fg : FG} (hc : X.calm = true) (hN : X.N.Nodup) (hi : PFI X L tg iter fi) (ok : BlkOk X.N X.env.scope scope own)
    (hg : ∀ (s : Shared) (H : Hp) (C : Addr) (cl : List (Str × Addr)) (fp : List Addr), PFG (X.blk s H scope (compEnvC scope cl C X.env) fp) L.in0 (own.map fun p : Str × Nat => p.2) tg fg) (ht : ∀ (s : Shared) (H : Hp) (C : Addr) (cl : List (Str × Addr)) (fp : List Addr), PFTs (X.blk s H scope (compEnvC scope cl C X.env) fp) L.in0 ifs ft)
    (he : ∀ (s : Shared) (H : Hp) (C : Addr) (cl : List (Str × Addr)) (fp : List Addr), PF (X.blk s H scope (compEnvC scope cl C X.env) fp) L.in0 elt fa) (hv : ∀ j ∈ (own.map fun p : Str × Nat => p.2), j ∉ L.io := by exact of_decide_eq_true rfl) (hs : ∀ x, foldedSetIterable iter X.env x = pure x := by intro _; rfl) :
    PF X L (.ListComp elt [⟨tg, iter, ifs, 0⟩] scope pos) (fLc fi fg (own.map fun p : Str × Nat => p.2) ft fa) := PE_imp (pe_lc (own := own) (wi := liftI X L fi) (g := liftG X L.in0 (own.map fun p : Str × Nat => p.2) fg) (tt := liftT X L.in0 ft) (te := liftE X L.in0 fa) hc hN hi ok hg (fun s H C cl fp => (ht s H C cl fp).h) he hs) fun σ H Q h => fLc_ok hv h
theorem pfs_setLc {i : Nat} {y : Str} {py : Pos} {elt tg iter : Expr} {ifs : List Expr} {scope : Scope} {own : List (Str × Nat)} {spos : Pos} {fi : FI} {fg : FG} (hc : X.calm = true) (hN : X.N.Nodup)
    (hsw : swapsWith (.ListComp elt [⟨tg, iter, ifs, 0⟩] scope pos) (some (.Name y py)) spos.line X.env = pure true) (hi : PFI X L tg iter fi) (ok : BlkOk X.N X.env.scope scope own)
    (hg : ∀ (s : Shared) (H : Hp) (C : Addr) (cl : List (Str × Addr)) (fp : List Addr), PFG (X.blk s H scope (compEnvC scope cl C X.env) fp) L.in0 (own.map fun p : Str × Nat => p.2) tg fg) (ht : ∀ (s : Shared) (H : Hp) (C : Addr) (cl : List (Str × Addr)) (fp : List Addr), PFTs (X.blk s H scope (compEnvC scope cl C X.env) fp) L.in0 ifs ft)
    (he : ∀ (s : Shared) (H : Hp) (C : Addr) (cl : List (Str × Addr)) (fp : List Addr), PF (X.blk s H scope (compEnvC scope cl C X.env) fp) L.in0 elt fa) (hy : X.N[i]? = some y := by rfl) (hyl : X.env.scope.names.lookup y = some .local := by rfl) (hio : i ∉ L.io := by exact of_decide_eq_true rfl)
    (hv : ∀ j ∈ (own.map fun p : Str × Nat => p.2), j ∉ L.io := by exact of_decide_eq_true rfl) (hs : ∀ x, foldedSetIterable iter X.env x = pure x := by intro _; rfl) :
    PFS X L (.Assign [.Name y py] (.ListComp elt [⟨tg, iter, ifs, 0⟩] scope pos) spos) (fAsg i (fLc fi fg (own.map fun p : Str × Nat => p.2) ft fa)) :=
  PS_imp (ps_setLc (own := own) (wi := liftI X L fi) (g := liftG X L.in0 (own.map fun p : Str × Nat => p.2) fg) (tt := liftT X L.in0 ft) (te := liftE X L.in0 fa) hc hN hy hyl hsw hi ok hg (fun s H C cl fp => (ht s H C cl fp).h) he hs) fun D σ H ⟨Z, Y, s, Ef, r, k, h, eo⟩ => by
  refine fLc_ok (Q := fun x H1 => gName i x σ H1 D.nx) hv ⟨Z, Y, s, Ef.xx, _, r, k, eo.xx, h, fun v H1 Z1 r1 s1 hz rx h1 => ?_⟩
  obtain ⟨Z2, s2, hz2, rl2, h2⟩ := putR_ok rx h1
  exact eo.nx _ H1 Z2 s2 (hz.trans hz2) (L.keeps_set k hio) rl2 h2
/-- a def keeps what its text does; io: the parameters that it may change -/
def liftSp (K : PySem.W.Frag) (mg : Str → Option Value) (io : List Nat) (np : Nat) (sem : FSem) : Sp := fun vs H Q E => ∃ Z Y svs Xf Qf, vs.length = np ∧ Rel K Z Y H (vs.map some) svs ∧ sem svs Xf Qf ∧
  (∀ u H' Z' σ' fin r, Same Z Z' → (∀ k ∈ io, σ'.getD k none = (vs.map some).getD k none) → σ'.length = np → RelX K Z' Y H' σ' fin [u] [r] → (∀ i, r ≠ .top i) → Qf r fin → Q u H') ∧
  (∀ n C H' Z' σ' fin, Same Z Z' → (∀ k ∈ io, σ'.getD k none = (vs.map some).getD k none) → σ'.length = np → Rel K Z' Y H' σ' fin → Xf n fin → mg n = some (.ref C) → E (.ref C) none H')
theorem app_set {α : Type} (a b : List α) (w x : α) (t : List α) : a ++ (b ++ x :: t) = (a ++ (b ++ w :: t)).set (a.length + b.length) x := by
  rw [List.set_append_right _ _ (by omega), Nat.add_sub_cancel_left, List.set_append_right _ _ (Nat.le_refl _), Nat.sub_self]; rfl
theorem bindA_ok {K : PySem.W.Frag} {Y H : Hp} {σ : St} : ∀ {ms : List Bool} {rs : List R} {vs us : List V} {ds : S} {Z : Hp} {s : S} {k : List SV → S → Prop},
    Rel K Z Y H (σ ++ (us ++ vs).map some) (s ++ (ds ++ rs.map svR)) → σ.length = s.length → us.length = ds.length → vs.length = rs.length → (∀ (j i : Nat), rs[j]? = some (R.top i) → i < σ.length ∧ σ.getD i none = vs[j]?) → bindA ms rs s k →
    ∃ Z' svs s', Same Z Z' ∧ Rel K Z' Y H (σ ++ (us ++ vs).map some) (s' ++ (ds ++ svs)) ∧ s'.length = s.length ∧ svs.length = vs.length ∧ ms.length = rs.length ∧ k svs s'
  | [], [], [], us, ds, Z, s, k, r, hl, hu, hv, tp, h => ⟨Z, [], s, Same.refl _, r, rfl, rfl, rfl, h⟩
  | [], [], _ :: _, us, ds, Z, s, k, r, hl, hu, hv, tp, h => by cases hv
  | [], _ :: _, vs, us, ds, Z, s, k, r, hl, hu, hv, tp, h => h.elim
  | true :: _, [], vs, us, ds, Z, s, k, r, hl, hu, hv, tp, h => h.elim
  | false :: _, [], vs, us, ds, Z, s, k, r, hl, hu, hv, tp, h => h.elim
  | m :: ms, r0 :: rs, [], us, ds, Z, s, k, r, hl, hu, hv, tp, h => by cases hv
  | m :: ms, r0 :: rs, v :: vs, us, ds, Z, s, k, r, hl, hu, hv, tp, h => by
    have tp' : ∀ (j i : Nat), rs[j]? = some (R.top i) → i < σ.length ∧ σ.getD i none = vs[j]? := fun j i e => tp (j + 1) i e
    have hl2 := r.len
    have ev : (us ++ v :: vs) = (us ++ [v]) ++ vs := by simp
    have go : ∀ {Z1 : Hp} {w : SV} {s1 : S} {k1 : List SV → S → Prop}, Same Z Z1 → s1.length = s.length → Rel K Z1 Y H (σ ++ (us ++ v :: vs).map some) (s1 ++ (ds ++ w :: rs.map svR)) → bindA ms rs s1 k1 → (∀ svs s', k1 svs s' → k (w :: svs) s') →
        ∃ Z' svs s', Same Z Z' ∧ Rel K Z' Y H (σ ++ (us ++ v :: vs).map some) (s' ++ (ds ++ svs)) ∧ s'.length = s.length ∧ svs.length = (v :: vs).length ∧ (m :: ms).length = (r0 :: rs).length ∧ k svs s' := by
      intro Z1 w s1 k1 hz1 hl1 r1 h1 hk
      have e2 : ds ++ w :: rs.map svR = (ds ++ [w]) ++ rs.map svR := by simp
      rw [ev, e2] at r1
      obtain ⟨Z', svs, s', hz, r2, hls, hlv, hlm, hk2⟩ := bindA_ok r1 (by rw [hl1]; exact hl) (by simp [hu]) (by simpa using hv) tp' h1
      refine ⟨Z', w :: svs, s', hz1.trans hz, ?_, hls.trans hl1, by simp [hlv], by simp [hlm], hk _ _ hk2⟩
      rw [ev]
      simpa using r2
    have ix : ∀ (w : SV) (t : S), (s ++ (ds ++ w :: t)).getD (s.length + ds.length) .no = w := fun w t => by
      rw [getD_app_ge (by omega), Nat.add_sub_cancel_left, getD_app_ge (Nat.le_refl _), Nat.sub_self]; rfl
    have iv : (σ ++ (us ++ v :: vs).map some).getD (s.length + ds.length) none = some v := by
      rw [← hl, ← hu, getD_app_ge (by omega), Nat.add_sub_cancel_left, List.map_append, getD_app_ge (by simp), List.length_map, Nat.sub_self]; rfl
    -- the k-th argument's content is exchanged: by a value that nobody changes
    have byD : ∀ {Z1 : Hp} {s1 : S} {w : SV} {x : D}, s1.length = s.length → Rel K Z1 Y H (σ ++ (us ++ v :: vs).map some) (s1 ++ (ds ++ w :: rs.map svR)) → Rp K Z1 v x → Rel K Z1 Y H (σ ++ (us ++ v :: vs).map some) (s1 ++ (ds ++ .d x :: rs.map svR)) := by
      intro Z1 s1 w x hl1 r1 rp
      refine r1.re (fun k => if k = s.length + ds.length then none else some k) (by have := r1.len; simpa using this) (fun k => ?_) (fun k k' j h h' => ?_)
      · by_cases hk : k = s.length + ds.length
        · simp only [if_pos hk]
          refine .inr ⟨x, v, ?_, by rw [hk]; exact iv, rp⟩
          rw [hk, ← hl1, getD_app_ge (by omega), Nat.add_sub_cancel_left, getD_app_ge (Nat.le_refl _), Nat.sub_self]; rfl
        · simp only [if_neg hk]
          refine ⟨?_, trivial⟩
          rw [app_set s1 ds w (.d x) (rs.map svR), hl1, getD_set_ne (Ne.symm hk)]
      · by_cases e1 : k = s.length + ds.length
        · rw [if_pos e1] at h; cases h
        · by_cases e2 : k' = s.length + ds.length
          · rw [if_pos e2] at h'; cases h'
          · rw [if_neg e1] at h; rw [if_neg e2] at h'; cases h; cases h'; rfl
    cases m with
    | false =>
      cases r0 with
      | d x => exact go (Same.refl _) rfl r h fun _ _ q => q
      | own w =>
        have h : (match asD w with | some x => bindA ms rs s fun svs s2 => k (.d x :: svs) s2 | none => False) := h
        cases e : asD w with
        | none => rw [e] at h; exact h.elim
        | some x =>
          rw [e] at h
          obtain ⟨Z1, hz1, r1⟩ := r.freeze (i := s.length + ds.length) (x := x) (by rw [show ((R.own w :: rs).map svR) = w :: rs.map svR from rfl, ix]; exact e)
          have es : (s ++ (ds ++ (R.own w :: rs).map svR)).set (s.length + ds.length) (.d x) = s ++ (ds ++ .d x :: rs.map svR) := by
            rw [List.set_append_right _ _ (by omega), Nat.add_sub_cancel_left, List.set_append_right _ _ (Nat.le_refl _), Nat.sub_self]; rfl
          rw [es] at r1
          exact go hz1 rfl r1 h fun _ _ q => q
      | top i =>
        have h : (match asD (s.getD i .no) with | some x => bindA ms rs (s.set i (.d x)) fun svs s2 => k (.d x :: svs) s2 | none => False) := h
        cases e : asD (s.getD i .no) with
        | none => rw [e] at h; exact h.elim
        | some x =>
          rw [e] at h
          obtain ⟨hi, hvi⟩ := tp 0 i rfl
          have his : i < s.length := by omega
          obtain ⟨Z1, hz1, r1⟩ := r.freeze (i := i) (x := x) (by rw [getD_app_lt his]; exact e)
          rw [List.set_append_left _ _ his] at r1
          have rp : Rp K Z1 v x := by
            obtain ⟨F, q⟩ := r1.slot i
            rw [getD_app_lt hi, getD_app_lt (by rw [List.length_set]; exact his), getD_set_self his, hvi] at q
            obtain ⟨_, u, e1, rp⟩ := q
            cases e1
            exact rp
          exact go hz1 (by rw [List.length_set]) (byD (by rw [List.length_set]) r1 rp) h fun _ _ q => q
    | true =>
      cases r0 with
      | d x => exact go (Same.refl _) rfl r h fun _ _ q => q
      | own w => exact go (Same.refl _) rfl r h fun _ _ q => q
      | top i =>
        obtain ⟨hi, hvi⟩ := tp 0 i rfl
        have his : i < s.length := by omega
        have h : bindA ms rs (s.set i .no) fun svs s2 => k (s.getD i .no :: svs) s2 := h
        refine go (w := s.getD i .no) (s1 := s.set i .no) (Same.refl _) (by rw [List.length_set]) ?_ h fun _ _ q => q
        -- the content moves from the slot to the argument
        refine r.re (fun k => if k = s.length + ds.length then some i else if k = i then none else some k) (by have := r.len; simpa using this) (fun k => ?_) (fun k k' j h h' => ?_)
        · by_cases hk : k = s.length + ds.length
          · simp only [if_pos hk]
            refine ⟨?_, ?_⟩
            · rw [hk, getD_app_lt his, getD_app_ge (by rw [List.length_set]; omega), List.length_set, Nat.add_sub_cancel_left, getD_app_ge (Nat.le_refl _), Nat.sub_self]; rfl
            · rw [hk, iv, getD_app_lt hi, hvi]; rfl
          · simp only [if_neg hk]
            by_cases h0 : k = i
            · simp only [if_pos h0]
              exact .inl (by rw [h0, getD_app_lt (by rw [List.length_set]; exact his), getD_set_self his])
            · simp only [if_neg h0]
              refine ⟨?_, trivial⟩
              rw [app_set (s.set i .no) ds .no (s.getD i .no) (rs.map svR), List.length_set, getD_set_ne (Ne.symm hk), ← List.set_append_left _ _ his, getD_set_ne (Ne.symm h0)]
              rfl
        · split at h <;> split at h' <;> (try split at h) <;> (try split at h') <;> (try cases h) <;> (try cases h') <;> (try injection h with h) <;> (try injection h' with h') <;> omega
theorem putB_len : ∀ {ms : List Bool} {rs : List R} {fin s : S}, (putB ms rs fin s).length = s.length
  | true :: ms, .top i :: rs, f :: fin, s => by unfold putB; rw [putB_len, List.length_set]
  | true :: ms, .d x :: rs, f :: fin, s => by unfold putB; exact putB_len
  | true :: ms, .own x :: rs, f :: fin, s => by unfold putB; exact putB_len
  | false :: ms, r :: rs, f :: fin, s => by unfold putB; exact putB_len
  | [], _, _, _ => rfl
  | true :: _, [], _, _ => rfl
  | false :: _, [], _, _ => rfl
  | true :: _, .top _ :: _, [], _ => rfl
  | true :: _, .d _ :: _, [], _ => rfl
  | true :: _, .own _ :: _, [], _ => rfl
  | false :: _, _ :: _, [], _ => rfl
/-- a slot behind the call: as it was, or what the argument that lent it holds -/
theorem putB_at : ∀ {ms : List Bool} {rs : List R} {fin s : S} (i : Nat), (putB ms rs fin s).getD i .no = s.getD i .no ∨ ∃ k : Nat, ms[k]? = some true ∧ rs[k]? = some (.top i) ∧ (putB ms rs fin s).getD i .no = fin.getD k .no
  | true :: ms, .top j :: rs, f :: fin, s, i => by
    unfold putB
    rcases putB_at (ms := ms) (rs := rs) (fin := fin) (s := s.set j f) i with h | ⟨k, h1, h2, h3⟩
    · by_cases hj : j = i
      · subst hj
        by_cases hlt : j < s.length
        · refine .inr ⟨0, rfl, rfl, ?_⟩
          rw [h, getD_set_self hlt]; rfl
        · refine .inl ?_
          rw [h, List.set_eq_of_length_le (by omega)]
      · exact .inl (by rw [h, getD_set_ne hj])
    · exact .inr ⟨k + 1, h1, h2, h3⟩
  | true :: ms, .d x :: rs, f :: fin, s, i => by
    unfold putB
    rcases putB_at (ms := ms) (rs := rs) (fin := fin) (s := s) i with h | ⟨k, h1, h2, h3⟩
    · exact .inl h
    · exact .inr ⟨k + 1, h1, h2, h3⟩
  | true :: ms, .own x :: rs, f :: fin, s, i => by
    unfold putB
    rcases putB_at (ms := ms) (rs := rs) (fin := fin) (s := s) i with h | ⟨k, h1, h2, h3⟩
    · exact .inl h
    · exact .inr ⟨k + 1, h1, h2, h3⟩
  | false :: ms, r :: rs, f :: fin, s, i => by
    unfold putB
    rcases putB_at (ms := ms) (rs := rs) (fin := fin) (s := s) i with h | ⟨k, h1, h2, h3⟩
    · exact .inl h
    · exact .inr ⟨k + 1, h1, h2, h3⟩
  | [], _, _, _, _ => .inl rfl
  | true :: _, [], _, _, _ => .inl rfl
  | false :: _, [], _, _, _ => .inl rfl
  | true :: _, .top _ :: _, [], _, _ => .inl rfl
  | true :: _, .d _ :: _, [], _, _ => .inl rfl
  | true :: _, .own _ :: _, [], _, _ => .inl rfl
  | false :: _, _ :: _, [], _, _ => .inl rfl
/-- the parameters that are lent -/
def ioOf (ms : List Bool) : List Nat := (List.range ms.length).filter fun k => ms.getD k false
theorem mem_ioOf {ms : List Bool} {k : Nat} (h : ms[k]? = some true) : k ∈ ioOf ms := by
  obtain ⟨h1, h2⟩ := List.getElem?_eq_some_iff.mp h
  exact List.mem_filter.mpr ⟨List.mem_range.mpr h1, by rw [List.getD_eq_getElem?_getD, h]; rfl⟩
/-- behind the call: the lent slots hold what the arguments hold -/
theorem back_ok {K : PySem.W.Frag} {Z Y H : Hp} {σ σ' ts : St} {s fin us : S} {ms : List Bool} {rs : List R} {vs : List V} (r : Rel K Z Y H (σ' ++ ts ++ σ) (fin ++ us ++ s)) (hl : σ.length = s.length) (hf : σ'.length = fin.length) (hu : ts.length = us.length)
    (keep : ∀ k ∈ ioOf ms, σ'.getD k none = (vs.map some).getD k none) (hv : vs.length = rs.length) (tp : ∀ (j i : Nat), rs[j]? = some (R.top i) → i < σ.length ∧ σ.getD i none = vs[j]?) (hfl : fin.length = vs.length) : Rel K Z Y H (σ ++ ts) (putB ms rs fin s ++ us) := by
  classical
  have at_ := fun i => putB_at (ms := ms) (rs := rs) (fin := fin) (s := s) i
  refine r.re (fun k => if k < σ.length then (if h : ∃ j : Nat, ms[j]? = some true ∧ rs[j]? = some (.top k) ∧ (putB ms rs fin s).getD k .no = fin.getD j .no then some h.choose else some (σ'.length + ts.length + k)) else if k < σ.length + ts.length then some (k - σ.length + σ'.length) else none)
    (by simp [putB_len, hl, hu]) (fun k => ?_) (fun k k' j h h' => ?_)
  · by_cases hk : k < σ.length
    · simp only [if_pos hk]
      by_cases h : ∃ j : Nat, ms[j]? = some true ∧ rs[j]? = some (.top k) ∧ (putB ms rs fin s).getD k .no = fin.getD j .no
      · simp only [dif_pos h]
        obtain ⟨h1, h2, h3⟩ := h.choose_spec
        generalize h.choose = j at h1 h2 h3
        have hlt : j < vs.length := by rw [hv]; exact (List.getElem?_eq_some_iff.mp h2).1
        refine ⟨?_, ?_⟩
        · rw [getD_app_lt (by rw [putB_len]; omega), h3, List.append_assoc, getD_app_lt (by omega)]
        · rw [getD_app_lt hk, (tp _ _ h2).2, List.append_assoc, getD_app_lt (by omega), keep _ (mem_ioOf h1), List.getD_eq_getElem?_getD, List.getElem?_map]
          rw [List.getElem?_eq_getElem hlt]; rfl
      · simp only [dif_neg h]
        refine ⟨?_, ?_⟩
        · rcases at_ k with q | q
          · rw [getD_app_lt (by rw [putB_len]; omega), q, getD_app_ge (by simp; omega)]
            have e : σ'.length + ts.length + k - (fin ++ us).length = k := by simp; omega
            rw [e]
          · exact absurd q h
        · rw [getD_app_lt hk, getD_app_ge (by simp)]
          have e : σ'.length + ts.length + k - (σ' ++ ts).length = k := by simp
          rw [e]
    · simp only [if_neg hk]
      by_cases hk2 : k < σ.length + ts.length
      · simp only [if_pos hk2]
        refine ⟨?_, ?_⟩
        · rw [getD_app_ge (by rw [putB_len]; omega), List.append_assoc, getD_app_ge (by omega), getD_app_lt (by omega), putB_len]
          congr 1; omega
        · rw [getD_app_ge (by omega), List.append_assoc, getD_app_ge (by omega), getD_app_lt (by omega)]
          congr 1; omega
      · simp only [if_neg hk2]
        exact .inl (getD_out (by simp [putB_len]; omega))
  · by_cases hk : k < σ.length
    · simp only [if_pos hk] at h
      by_cases hk' : k' < σ.length
      · simp only [if_pos hk'] at h'
        by_cases q : ∃ j : Nat, ms[j]? = some true ∧ rs[j]? = some (.top k) ∧ (putB ms rs fin s).getD k .no = fin.getD j .no
        · rw [dif_pos q] at h
          have qlt : q.choose < vs.length := by rw [hv]; exact (List.getElem?_eq_some_iff.mp q.choose_spec.2.1).1
          by_cases q' : ∃ j : Nat, ms[j]? = some true ∧ rs[j]? = some (.top k') ∧ (putB ms rs fin s).getD k' .no = fin.getD j .no
          · rw [dif_pos q'] at h'
            have e : q.choose = q'.choose := Option.some.inj (h.trans h'.symm)
            have e1 := q.choose_spec.2.1
            have e2 := q'.choose_spec.2.1
            rw [e, e2] at e1
            cases e1; rfl
          · rw [dif_neg q'] at h'
            have e := Option.some.inj (h.trans h'.symm)
            omega
        · rw [dif_neg q] at h
          by_cases q' : ∃ j : Nat, ms[j]? = some true ∧ rs[j]? = some (.top k') ∧ (putB ms rs fin s).getD k' .no = fin.getD j .no
          · rw [dif_pos q'] at h'
            have qlt : q'.choose < vs.length := by rw [hv]; exact (List.getElem?_eq_some_iff.mp q'.choose_spec.2.1).1
            have e := Option.some.inj (h.trans h'.symm)
            omega
          · rw [dif_neg q'] at h'
            have e := Option.some.inj (h.trans h'.symm)
            omega
      · simp only [if_neg hk'] at h'
        by_cases hk2 : k' < σ.length + ts.length
        · rw [if_pos hk2] at h'
          by_cases q : ∃ j : Nat, ms[j]? = some true ∧ rs[j]? = some (.top k) ∧ (putB ms rs fin s).getD k .no = fin.getD j .no
          · rw [dif_pos q] at h
            have qlt : q.choose < vs.length := by rw [hv]; exact (List.getElem?_eq_some_iff.mp q.choose_spec.2.1).1
            have e := Option.some.inj (h.trans h'.symm)
            omega
          · rw [dif_neg q] at h
            have e := Option.some.inj (h.trans h'.symm)
            omega
        · rw [if_neg hk2] at h'; cases h'
    · simp only [if_neg hk] at h
      by_cases hk2 : k < σ.length + ts.length
      · rw [if_pos hk2] at h
        by_cases hk' : k' < σ.length
        · simp only [if_pos hk'] at h'
          by_cases q : ∃ j : Nat, ms[j]? = some true ∧ rs[j]? = some (.top k') ∧ (putB ms rs fin s).getD k' .no = fin.getD j .no
          · rw [dif_pos q] at h'
            have qlt : q.choose < vs.length := by rw [hv]; exact (List.getElem?_eq_some_iff.mp q.choose_spec.2.1).1
            have e := Option.some.inj (h.trans h'.symm)
            omega
          · rw [dif_neg q] at h'
            have e := Option.some.inj (h.trans h'.symm)
            omega
        · simp only [if_neg hk'] at h'
          by_cases hk2' : k' < σ.length + ts.length
          · rw [if_pos hk2'] at h'
            have e := Option.some.inj (h.trans h'.symm)
            omega
          · rw [if_neg hk2'] at h'; cases h'
      · rw [if_neg hk2] at h; cases h
/-- the call, by the callee's text -/
theorem fCall_ok {sem : FSem} {ms : List Bool} {n : Nat} {σ : St} {H : Hp} {Q : VK} (hn : ms.length = n) (h : liftE X L (fCall sem ms fr) σ H Q) :
    tCallSD (liftSp X.K X.mg (ioOf ms) n sem) [] (fun σ cls d H => L.E cls d σ H) (liftA X L n fr) σ H Q := by
  obtain ⟨Z, Y, s, Xf, Qf, r, k, xo, h, q⟩ := h
  refine ⟨Z, Y, s, Xf, _, r, k, xo, h, fun vs H1 Z1 rs s1 hz rx hrn h1 => ?_⟩
  obtain ⟨Z2, svs, s2, hz2, r2, hls, hlv, hlm, h2⟩ := bindA_ok (us := []) (ds := []) (vs := vs) (by simpa using rx.rel) rx.l1 rfl rx.l2 rx.top h1
  simp only [List.nil_append] at r2
  have hσ : σ.length = s2.length := by rw [hls]; exact rx.l1
  have hts : (vs.map some).length = svs.length := by rw [List.length_map, hlv]
  -- the arguments alone
  have r3 : Rel X.K Z2 Y H1 ([] ++ vs.map some ++ σ) ([] ++ svs ++ s2) := Rel.swap (σa := []) (sa := []) (by simpa using r2) rfl hσ
  simp only [List.nil_append] at r3
  obtain ⟨Y', hy', r4, back, _⟩ := r3.frame hts
  have hvn : vs.length = n := by rw [rx.l2, hrn]
  rw [List.append_nil]
  refine ⟨Z2, Y', svs, _, _, hvn, r4, h2, fun u H' Z' σ' fin r' hz' keep hl' rx' nt hq => ?_, fun n' C H' Z' σ' fin hz' keep hl' r' hx m => ?_⟩
  · have b := back Z' H' _ _ hz' rx'.rel
    have lf : σ'.length = fin.length := rx'.l1
    have b2 := back_ok (ms := ms) (rs := rs) (vs := vs) b hσ lf (by simp) keep rx.l2 rx.top (by rw [← lf, hl', hvn])
    refine q u H' Z' r' _ ((hz.trans hz2).trans hz') ⟨b2, by rw [putB_len]; exact hσ, rfl, fun k i e => ?_⟩ hq
    cases k with
    | zero => exact absurd (by simpa using e) (nt i)
    | succ k => simp at e
  · have b := back Z' H' _ _ hz' r'
    have lf : σ'.length = fin.length := r'.len
    have b2 := back_ok (ts := []) (us := []) (ms := ms) (rs := rs) (vs := vs) (by simpa using b) hσ lf rfl keep rx.l2 rx.top (by rw [← lf, hl', hvn])
    simp only [List.append_nil] at b2
    exact xo n' C Z' H' σ _ ((hz.trans hz2).trans hz') k b2 hx m
variable {CX : CXT} {k : Nat} {f : Addr} {fd : FuncData} {ps : List Str} {x : Str}
theorem pf_call {sem : FSem} {ms : List Bool} (F : FnOk X.prog X.w X.K X.mg X.base CX k f fd ps (liftSp X.K X.mg (ioOf ms) (es.length + 1) sem)) (hr : Room k X.A) (hm : X.mg x = some (.ref f)) (hk : PySem.W.keepIn X.K (.ref f) = true) (hb : Binds X.K fd ps [])
    (hx : ∀ σ, PassesAt CX X σ (fun cls d H => L.E cls d σ H)) (ha : PFA X L (e :: es) fr) (hg : Gl X x := by rfl) (hn : ms.length = es.length + 1 := by rfl) (hdb : (x == ("__debug__" : Str)) = false := by decide) (he : starEach (e :: es) X.env = (false, eval e X.env) :: starEach es X.env := by rfl) (hpl : (backTo pos (starEach es X.env)).any (·.1) = false := by rfl) :
    PF X L (.Call (.Name x p) (e :: es) [] pos) (fCall sem ms fr) := PE_imp (pe_callSD F hr hg hm hk hb .nil hx ha hdb he hpl) fun σ H Q h => fCall_ok hn h
theorem pass0At : ∀ σ, PassesAt (L2.CX X.prog X.w) X σ (fun cls d H => L.in0.E cls d σ H) := fun σ pins H s e s' I c => passL pins σ H s e s' I c
variable {P : Program} {w : World} {K : PySem.W.Frag} {mg : Str → Option Value} {base : Heap}
theorem okStart {X : Cx} {N ps : List Str} {io : List Nat} {bd : FS} {vs : List V} {H : Hp} {Q : VK} {E : XK} (hnp : ps.length ≤ N.length) (h : liftSp X.K X.mg io ps.length (semOf ps.length N.length bd) vs H Q E) :
    liftS X ⟨fun cls d _ H => E cls d H, io, L2.start N vs⟩ bd { nx := fun _ H' => Q .non H', rt := Q } (L2.start N vs) H := by
  obtain ⟨Z, Y, svs, Xf, Qf, hl, r, hsem, hq, hx⟩ := h
  have hs : svs.length = ps.length := by have := r.len; rw [List.length_map] at this; omega
  have r0 : Rel X.K Z Y H (L2.start N vs) (svs ++ List.replicate (N.length - ps.length) .no) := by
    unfold L2.start
    rw [hl]
    generalize N.length - ps.length = n
    refine r.re (fun k => if k < svs.length then some k else none) (by simp [hs, hl]) (fun k => ?_) (fun k k' j h h' => ?_)
    · by_cases h : k < svs.length
      · simp only [if_pos h]
        exact ⟨by rw [getD_app_lt h], by rw [getD_app_lt (by simp; omega)]⟩
      · simp only [if_neg h]
        refine .inl ?_
        rw [getD_app_ge (by omega), List.getD_eq_getElem?_getD, List.getElem?_replicate]
        split <;> rfl
    · by_cases a : k < svs.length
      · by_cases b : k' < svs.length
        · rw [if_pos a] at h; rw [if_pos b] at h'; cases h; cases h'; rfl
        · rw [if_neg b] at h'; cases h'
      · rw [if_neg a] at h; cases h
  have tk : ∀ {Z' H' : Hp} {σ' ts : St} {s' us : S}, Rel X.K Z' Y H' (σ' ++ ts) (s' ++ us) → σ'.length = s'.length → Rel X.K Z' Y H' (σ'.take ps.length ++ ts) (s'.take ps.length ++ us) := by
    intro Z' H' σ' ts s' us r' hl'
    have hl2 := r'.len
    simp only [List.length_append] at hl2
    have g1 : ∀ j, j < (σ'.take ps.length).length → (σ'.take ps.length).getD j none = σ'.getD j none := fun j h => by
      rw [List.getD_eq_getElem?_getD, List.getD_eq_getElem?_getD, List.getElem?_take_of_lt (by rw [List.length_take] at h; omega)]
    have g2 : ∀ j, j < (s'.take ps.length).length → (s'.take ps.length).getD j .no = s'.getD j .no := fun j h => by
      rw [List.getD_eq_getElem?_getD, List.getD_eq_getElem?_getD, List.getElem?_take_of_lt (by rw [List.length_take] at h; omega)]
    have hm : (σ'.take ps.length).length = (s'.take ps.length).length := by rw [List.length_take, List.length_take, hl']
    generalize hA : σ'.take ps.length = σt at g1 hm
    generalize hB : s'.take ps.length = st' at g2 hm
    have hle : σt.length ≤ σ'.length := by rw [← hA, List.length_take]; omega
    refine r'.re (fun k => if k < σt.length then some k else if k < σt.length + ts.length then some (k - σt.length + σ'.length) else none) (by simp [hm]; omega) (fun k => ?_) (fun k k' j h h' => ?_)
    · by_cases h1 : k < σt.length
      · simp only [if_pos h1]
        exact ⟨by rw [getD_app_lt (by omega), getD_app_lt (by omega), g2 k (by omega)], by rw [getD_app_lt h1, getD_app_lt (by omega), g1 k h1]⟩
      · simp only [if_neg h1]
        by_cases h2 : k < σt.length + ts.length
        · simp only [if_pos h2]
          refine ⟨?_, ?_⟩
          · rw [getD_app_ge (by omega), getD_app_ge (by omega)]; congr 1; omega
          · rw [getD_app_ge (by omega), getD_app_ge (by omega)]; congr 1; omega
        · simp only [if_neg h2]
          exact .inl (getD_out (by simp; omega))
    · split at h <;> split at h' <;> (try split at h) <;> (try split at h') <;> (try cases h) <;> (try cases h') <;> (try injection h with h) <;> (try injection h' with h') <;> omega
  have tkl : ∀ {Z' H' : Hp} {σ' : St} {s' : S}, Rel X.K Z' Y H' σ' s' → Rel X.K Z' Y H' (σ'.take ps.length) (s'.take ps.length) := fun {Z' H' σ' s'} r' => by
    have := tk (ts := []) (us := []) (by simpa using r') r'.len
    simpa using this
  -- the lent parameters stay in their slots
  have kp : ∀ {σ' : St}, Lv.keeps ⟨fun cls d _ H => E cls d H, io, L2.start N vs⟩ σ' → ∀ k ∈ io, (σ'.take ps.length).getD k none = (vs.map some).getD k none := by
    intro σ' kk k hk
    by_cases hkp : k < ps.length
    · have q := kk.2 k hk
      have q : σ'.getD k none = (L2.start N vs).getD k none := q
      rw [List.getD_eq_getElem?_getD, List.getElem?_take_of_lt hkp, ← List.getD_eq_getElem?_getD, q]
      unfold L2.start
      rw [getD_app_lt (by simp; omega)]
    · rw [getD_out (by rw [List.length_take]; omega), getD_out (by rw [List.length_map]; omega)]
  have stl : (L2.start N vs).length = N.length := by unfold L2.start; simp; omega
  have tl : ∀ {σ' : St}, Lv.keeps ⟨fun cls d _ H => E cls d H, io, L2.start N vs⟩ σ' → (σ'.take ps.length).length = ps.length := fun {σ'} h => by
    have := h.1
    have : σ'.length = (L2.start N vs).length := this
    rw [List.length_take]; omega
  refine ⟨Z, Y, _, _, r0, ⟨rfl, fun _ _ => rfl⟩, hsem, fun σ' H' Z' s' hz kk r' h' => ?_, fun v σ' H' Z' r0' s' hz kk rx h' => ?_, fun _ _ _ _ _ _ _ h' => h'.elim, fun _ _ _ _ _ _ _ h' => h'.elim, fun n C Z' H' σ' s' hz kk r' h' m => ?_⟩
  · exact hq .non H' Z' (σ'.take ps.length) (s'.take ps.length) (.d .none) hz (kp kk) (tl kk) (.d (tkl r') .non) (fun i e => nomatch e) h'
  · have h' : outR r0' s' fun r' s'' => Qf r' (s''.take ps.length) := h'
    have fin : ∀ {s2 : S} {r2 : R}, (∀ i, r2 ≠ .top i) → Rel X.K Z' Y H' (σ' ++ [some v]) (s2 ++ [svR r2]) → σ'.length = s2.length → Qf r2 (s2.take ps.length) → Q v H' := fun {s2 r2} nt rl hl2 hq2 =>
      hq v H' Z' (σ'.take ps.length) (s2.take ps.length) r2 hz (kp kk) (tl kk) ⟨tk rl hl2, by rw [List.length_take, List.length_take, hl2], rfl, .one fun i e => absurd e (nt i)⟩ nt hq2
    cases r0' with
    | d x => exact fin (fun i e => by cases e) rx.rel rx.l1 h'
    | own w => exact fin (fun i e => by cases e) rx.rel rx.l1 h'
    | top i =>
      obtain ⟨hi, hv⟩ := rx.top 0 i rfl
      have his : i < s'.length := by rw [← rx.l1]; exact hi
      refine fin (s2 := s'.set i .no) (r2 := .own (s'.getD i .no)) (fun i e => by cases e) ?_ (by rw [List.length_set]; exact rx.l1) h'
      -- what the slot holds is handed out
      refine rx.rel.re (fun k => if k = σ'.length then some i else if k = i then none else some k) (by have := rx.l1; simp [this]) (fun k => ?_) (fun k k' j h h' => ?_)
      · by_cases hk : k = σ'.length
        · simp only [if_pos hk]
          refine ⟨?_, ?_⟩
          · rw [hk, getD_app_ge (by rw [List.length_set, rx.l1]; exact Nat.le_refl _), List.length_set, rx.l1, Nat.sub_self, getD_app_lt his]; rfl
          · rw [hk, getD_app_ge (Nat.le_refl _), Nat.sub_self, getD_app_lt hi, hv]; rfl
        · simp only [if_neg hk]
          by_cases h0 : k = i
          · simp only [if_pos h0]
            exact .inl (by rw [h0, getD_app_lt (by rw [List.length_set]; exact his), getD_set_self his])
          · simp only [if_neg h0]
            refine ⟨?_, rfl⟩
            have hl1 := rx.l1
            by_cases h1 : k < s'.length
            · rw [getD_app_lt (by rw [List.length_set]; exact h1), getD_app_lt h1, getD_set_ne (Ne.symm h0)]
            · rw [getD_out (by simp; omega), getD_out (by simp; omega)]
      · split at h <;> split at h' <;> (try split at h) <;> (try split at h') <;> (try cases h) <;> (try cases h') <;> (try injection h with h) <;> (try injection h' with h') <;> omega
  · exact hx n C H' Z' (σ'.take ps.length) (s'.take ps.length) hz (kp kk) (tl kk) (tkl r') h' m
theorem okF {q : Str} {st : Stmt} {N : List Str} {io : List Nat} {bd : FS} (F : Fun K x q st f fd) (sco : FnScope N ps (defScope st)) (hnp : ps.length ≤ N.length)
    (hb : ∀ (cdv : Value) (A : Around) (outer : List Env) (s : Shared) (H : Hp) (vs : List V) (E : XK), Room k (A.deeper (envOfC q (defScope st) s.heap.objs.size f cdv)) →
      PFSs (cxOf (L2.CX P w) P w K mg base N q (defScope st) f cdv A outer s H E) ⟨fun cls d _ H => E cls d H, io, L2.start N vs⟩ (defBody st) bd) :
    FnOk P w K mg base (L2.CX P w) (k + 1) f fd ps (liftSp K mg io ps.length (semOf ps.length N.length bd)) := by
  refine F.okX sco (fun vs H Q E ⟨_, _, _, _, _, hl, _⟩ => hl) fun cdv A outer s H vs Q E hr h => ⟨_, hb cdv A outer s H vs E hr, okStart hnp h⟩
end
end Hs
namespace Hs
open PySem
/-- factors whose product may be had; a divisor -/
def okM (i j : Int) : Prop := i.natAbs.log2 + j.natAbs.log2 < 1000000
def okD (j : Int) : Prop := 0 < j ∧ j.natAbs.log2 < 9000
def opAdd : V2 := fun d e Q => match d, e with
  | .int i, .int j => Q (.d (.int (i + j)))
  | .str x, .str y => x.length + y.length ≤ sizeLine ∧ Q (.d (.str (x ++ y)))
  | .list xs, .list ys => xs.length + ys.length ≤ sizeLine ∧ Q (.own (.l (xs ++ ys)))
  | .tuple xs, .tuple ys => xs.length + ys.length ≤ sizeLine ∧ Q (.d (.tuple (xs ++ ys)))
  | _, _ => False
def opSub : V2 := fun d e Q => match d, e with
  | .int i, .int j => Q (.d (.int (i - j)))
  | _, _ => False
def opMul : V2 := fun d e Q => match d, e with
  | .int i, .int j => okM i j ∧ Q (.d (.int (i * j)))
  | .list xs, .int k => -(2 ^ 63) ≤ k ∧ k < 2 ^ 63 ∧ xs.length * k.toNat ≤ sizeLine ∧ Q (.own (.l (List.replicate k.toNat xs).flatten))
  | .tuple xs, .int k => xs ≠ [] ∧ 0 ≤ k ∧ k ≤ 1000 ∧ xs.length ≤ 1000 ∧ Q (.d (.tuple (List.replicate k.toNat xs).flatten))
  | _, _ => False
def opFdiv : V2 := fun d e Q => match d, e with
  | .int i, .int j => okD j ∧ Q (.d (.int (i / j)))
  | _, _ => False
def opMod : V2 := fun d e Q => match d, e with
  | .int i, .int j => 0 < j ∧ Q (.d (.int (i % j)))
  | _, _ => False
def opPow : V2 := fun d e Q => match d, e with
  | .int i, .int j => 0 ≤ j ∧ j ≤ 1000000 ∧ i.natAbs < 2 ^ 64 ∧ Q (.d (.int (i ^ j.toNat)))
  | _, _ => False
def uNeg : V1 := fun d Q => match d with
  | .int i => Q (.d (.int (-i)))
  | _ => False
/-- what is compared: the text's own list as a list -/
def unlit : D → D
  | .dict [(.none, .list xs)] => .list xs
  | d => d
def cEq : V2 := fun d e Q => (∃ x y, d = .str x ∧ e = .str y ∧ Q (.d (.bool (decide (x = y))))) ∨ (SeqAt.shaped (unlit d) = true ∧ SeqAt.shaped (unlit e) = true ∧ Q (.d (.bool (PyData.eqv (unlit d) (unlit e)))))
def cNe : V2 := fun d e Q => (∃ x y, d = .str x ∧ e = .str y ∧ Q (.d (.bool (!decide (x = y))))) ∨ (SeqAt.shaped (unlit d) = true ∧ SeqAt.shaped (unlit e) = true ∧ Q (.d (.bool (!PyData.eqv (unlit d) (unlit e)))))
/-- xs[::-1] -/
def revD : V1 := fun d Q => match d with
  | .list xs => Q (.own (.l xs.reverse))
  | .tuple xs => Q (.d (.tuple xs.reverse))
  | _ => False
def intsOf : List D → Option (List Int)
  | [] => some []
  | .int i :: r => (intsOf r).map (i :: ·)
  | _ => none
def cLt : V2 := fun d e Q => match d, e with
  | .int i, .int j => Q (.d (.bool (decide (i < j))))
  | .tuple xs, .tuple ys => match intsOf xs, intsOf ys with
    | some ns, some ms => Q (.d (.bool (HT.lexLt ns ms)))
    | _, _ => False
  | _, _ => False
def cLe : V2 := fun d e Q => match d, e with
  | .int i, .int j => Q (.d (.bool (decide (i ≤ j))))
  | _, _ => False
def cGt : V2 := fun d e Q => match d, e with
  | .int i, .int j => Q (.d (.bool (decide (j < i))))
  | _, _ => False
def cGe : V2 := fun d e Q => match d, e with
  | .int i, .int j => Q (.d (.bool (decide (j ≤ i))))
  | _, _ => False
def cIn : V2 := fun d e Q => match e with
  | .list xs => SeqAt.shaped d = true ∧ SeqAt.shaped (.list xs) = true ∧ Q (.d (.bool (xs.any fun z => PyData.eqv z d)))
  | .tuple xs => SeqAt.shaped d = true ∧ SeqAt.shaped (.tuple xs) = true ∧ Q (.d (.bool (xs.any fun z => PyData.eqv z d)))
  | _ => False
def cNotIn : V2 := fun d e Q => match e with
  | .list xs => SeqAt.shaped d = true ∧ SeqAt.shaped (.list xs) = true ∧ Q (.d (.bool (!xs.any fun z => PyData.eqv z d)))
  | .tuple xs => SeqAt.shaped d = true ∧ SeqAt.shaped (.tuple xs) = true ∧ Q (.d (.bool (!xs.any fun z => PyData.eqv z d)))
  | _ => False
def isNone : D → Bool
  | .none => true
  | _ => false
def pairOf : D → Option (Int × Int)
  | .tuple [.int i, .int j] => some (i, j)
  | _ => none
def pairsOf : List D → Option (List (Int × Int))
  | [] => some []
  | x :: r => match pairOf x, pairsOf r with
    | some p, some ps => some (p :: ps)
    | _, _ => none
abbrev pairD (p : Int × Int) : D := .tuple [.int p.1, .int p.2]
def ltPr (p q : Int × Int) : Bool := decide (p.1 < q.1) || (p.1 == q.1 && decide (p.2 < q.2))
/-- sorted: of ints, of pairs of ints (a list) -/
def bSortI : VN := fun ds Q => match ds with
  | [.list xs] => match intsOf xs with
    | some ns => ∀ ms : List Int, ms.Perm ns → ms.Pairwise (· ≤ ·) → Q (.own (.l (ms.map .int)))
    | none => False
  | _ => False
def bSortP : VN := fun ds Q => match ds with
  | [.list xs] => match pairsOf xs with
    | some ps => ∀ qs : List (Int × Int), qs.Perm ps → qs.Pairwise (fun p q => ltPr q p = false) → Q (.own (.l (qs.map pairD)))
    | none => False
  | _ => False
def cIs : V2 := fun d e Q => match d, e with
  | d, .none => Q (.d (.bool (isNone d)))
  | .bool a, .bool b => Q (.d (.bool (decide (a = b))))
  | _, _ => False
def cIsNot : V2 := fun d e Q => match d, e with
  | d, .none => Q (.d (.bool (!isNone d)))
  | .bool a, .bool b => Q (.d (.bool (!decide (a = b))))
  | _, _ => False
def ixD : V2 := fun d e Q => match d, e with
  | .list xs, .int i => match L2.atI xs i with
    | some x => Q (.d x)
    | none => False
  | .tuple xs, .int i => match L2.atI xs i with
    | some x => Q (.d x)
    | none => False
  | .str z, .int i => z.length ≤ sizeLine ∧ match L2.atI z.cps.toList i with
    | some c => Q (.d (.str ⟨#[c]⟩))
    | none => False
  | .dict [(.none, .list xs)], .int i => match L2.atI xs i with
    | some x => Q (.d x)
    | none => False
  | _, _ => False
def slD (d : D) (lo hi : Option Int) (Q : R → Prop) : Prop := match d with
  | .list xs => Q (.own (.l (cutL xs lo hi)))
  | .tuple xs => Q (.d (.tuple (cutL xs lo hi)))
  | _ => False
where cutL (xs : List D) (lo hi : Option Int) : List D := (xs.drop (HT.sIx xs.length 0 lo)).take (HT.sIx xs.length xs.length hi - HT.sIx xs.length 0 lo)
def bLen : VN := fun ds Q => match ds with
  | [.list xs] => Q (.d (.int (xs.length : Nat)))
  | [.tuple xs] => Q (.d (.int (xs.length : Nat)))
  | [.str x] => x.length ≤ sizeLine ∧ Q (.d (.int (x.length : Nat)))
  | [.dict [(.none, .list xs)]] => Q (.d (.int (xs.length : Nat)))
  | _ => False
def bAbs : VN := fun ds Q => match ds with
  | [.int i] => Q (.d (.int (if i < 0 then -i else i)))
  | _ => False
def bMax2 : VN := fun ds Q => match ds with
  | [.int i, .int j] => Q (.d (.int (if j > i then j else i)))
  | _ => False
def bMin2 : VN := fun ds Q => match ds with
  | [.int i, .int j] => Q (.d (.int (if j < i then j else i)))
  | _ => False
def bInt : VN := fun ds Q => match ds with
  | [.int i] => Q (.d (.int i))
  | [.bool b] => Q (.d (.int (if b then 1 else 0)))
  | _ => False
def bTuple : VN := fun ds Q => match ds with
  | [.list xs] => Q (.d (.tuple xs))
  | [.tuple xs] => Q (.d (.tuple xs))
  | _ => False
def bList : VN := fun ds Q => match ds with
  | [.list xs] => Q (.own (.l xs))
  | [.tuple xs] => Q (.own (.l xs))
  | _ => False
def boolsOf : List D → Option (List Bool)
  | [] => some []
  | .bool i :: r => (boolsOf r).map (i :: ·)
  | _ => none
def bAll : VN := fun ds Q => match ds with
  | [.list xs] => match boolsOf xs with
    | some bs => Q (.d (.bool (bs.all id)))
    | none => False
  | _ => False
def bAny : VN := fun ds Q => match ds with
  | [.list xs] => match boolsOf xs with
    | some bs => Q (.d (.bool (bs.any id)))
    | none => False
  | _ => False
def isTy : String → D → Bool
  | "int", .int _ => true
  | "int", .bool _ => true
  | "bool", .bool _ => true
  | "tuple", .tuple _ => true
  | "list", .list _ => true
  | "str", .str _ => true
  | "dict", .dict _ => true
  | _, _ => false
def isLit : D → Bool
  | .dict ((.none, .none) :: _) => false
  | .dict ((.none, _) :: _) => true
  | _ => false
def bIs (T : String) : V1 := fun d Q => isLit d = false ∧ Q (.d (.bool (isTy T d)))
end Hs
namespace Hs
open PySem PySem.Spec PyProof.Rows L2
section
variable {X : Cx} {L : Lv} {e a b c : Expr} {es : List Expr} {fa fb fc : FE} {ft fu : FT} {fr : FA} {pos p : Pos}
variable {K : PySem.W.Frag} {Z H : Hp}
theorem add_lists {pins : List (Addr × Obj)} {s : Shared} {σ : St} {H : Hp} {l b : Addr} {xs zs : List V} {Q : VK} (I : Inv X pins σ H s) (hH : Rd H l (.lst xs)) (hB : Rd H b (.lst zs)) (hz : xs.length + zs.length ≤ sizeLine) (q : ∀ p, H p = none → Q (.ref p) (upd H p (.lst (xs ++ zs)))) :
    wpAny (model X.prog X.w) X.A (binaryOp .Add (.ref l) (.ref b)) (EP X pins σ Q) X.xe s := by
  obtain ⟨hl, its, n, r, e⟩ := hH.ok I.hok
  obtain ⟨hl2, its2, n2, r2, e2⟩ := hB.ok I.hok
  have h1 := r.length
  have h2 := r2.length
  refine PySem.P.add_list e e2 ?g ?z
  case z => simp only [List.size_toArray]; omega
  have ea : its.toArray ++ its2.toArray = (its ++ its2).toArray := by simp
  rw [ea]
  exact ⟨.ref _, _, I.lnew (t' := s.toks) (r.append r2) (by rw [List.length_append]; omega), rfl, q _ I.fresh⟩
theorem fop_add : OpR X (binaryOp .Add) (rF2 X.K opAdd) := by
  intro pins s σ H x y v u Q I rx ry ⟨Z, d, e, Qf, hz, hd, he, g, q⟩
  unfold opAdd at g
  split at g
  · cases hd.int; cases he.int
    exact op_add pins s σ H _ _ v u Q I rx ry ⟨_, _, rfl, rfl, q _ H Z _ (.d hz (.int _)) g⟩
  · cases hd.str; cases he.str
    exact op_add_str pins s σ H _ _ v u Q I rx ry ⟨_, _, rfl, rfl, g.1, q _ H Z _ (.d hz (.str _)) g.2⟩
  · obtain ⟨p, vs, rfl, h1, h2, h3⟩ := hd.list hz
    obtain ⟨p', vs', rfl, h1', h2', h3'⟩ := he.list hz
    cases rx; cases ry
    have l1 := h3.length
    have l2 := h3'.length
    exact add_lists I h1 h1' (by omega) fun n hn => q _ _ Z _ (.lst hz hn (by rw [List.length_append]; omega) (h3.append h3')) g.2
  · obtain ⟨p, vs, rfl, h1, h2, h3⟩ := hd.tuple hz
    obtain ⟨p', vs', rfl, h1', h2', h3'⟩ := he.tuple hz
    have l1 := h3.length
    have l2 := h3'.length
    refine op_catA pins s σ H _ _ v u Q I rx ry ⟨p, p', vs, vs', rfl, rfl, h1, h1', by omega, fun e => ?_, fun e1 e2 => ?_, fun e1 e2 n hn => ?_⟩
    · subst e
      cases h3
      have ez : Rp X.K Z (.ref p') (.tuple _) := RpV.tupZ he
      exact q _ H Z _ (.d hz ez) g.2
    · subst e2
      cases h3'
      have ez : Rp X.K Z (.ref p) (.tuple _) := RpV.tupZ hd
      rw [List.append_nil] at g
      exact q _ H Z _ (.d hz ez) g.2
    · exact q _ _ _ _ (.tup hz hn (by rw [List.length_append]; omega) (h3.append h3')) g.2
  · exact g.elim
where
  RpV.tupZ {K : PySem.W.Frag} {Z H : Hp} {v : V} {xs : List D} (r : RpV K Z H v (.tuple xs)) : Rp K Z v (.tuple xs) := by
    rcases r with r | ⟨p, vs, xs', rfl, e2, h, z, a⟩ | ⟨p, kvs, rfl, e2, h⟩
    · exact r
    · cases e2
    · cases e2
theorem fop_sub : OpR X (binaryOp .Sub) (rF2 X.K opSub) := by
  intro pins s σ H x y v u Q I rx ry ⟨Z, d, e, Qf, hz, hd, he, g, q⟩
  unfold opSub at g
  split at g
  · cases hd.int; cases he.int
    exact op_sub pins s σ H _ _ v u Q I rx ry ⟨_, _, rfl, rfl, q _ H Z _ (.d hz (.int _)) g⟩
  · exact g.elim
theorem rep_list {pins : List (Addr × Obj)} {s : Shared} {σ : St} {H : Hp} {l : Addr} {k : Int} {t : Tok} {xs : List V} {Q : VK} (I : Inv X pins σ H s) (hH : Rd H l (.lst xs)) (h1 : -(2 ^ 63) ≤ k) (h2 : k < 2 ^ 63) (hz : xs.length * k.toNat ≤ sizeLine) (q : ∀ p, H p = none → Q (.ref p) (upd H p (.lst (List.replicate k.toNat xs).flatten))) :
    wpAny (model X.prog X.w) X.A (binaryOp .Mult (.ref l) (.int k t)) (EP X pins σ Q) X.xe s := by
  obtain ⟨_, its, n, r, e⟩ := hH.ok I.hok
  have hl := r.length
  have hlen : its.toArray.size * k.toNat ≤ sizeLine := by rw [List.size_toArray, ← hl]; exact hz
  have hcap : ¬ its.toArray.size * k.toNat > (2 ^ 63 - 1) / 8 := by
    have : (sizeLine : Nat) ≤ (2 ^ 63 - 1) / 8 := by decide
    omega
  have hfit : ¬ (!Builtin.List.listFitsIndex k) = true := by
    rw [fitsIndex_both h1 h2]
    exact Bool.false_ne_true
  have hlong : ¬ Builtin.List.listTooLong (its.toArray.size * k.toNat) = true := by
    rw [notLongL hlen]
    exact Bool.false_ne_true
  have hnew : List.foldl (fun x1 x2 => x1 ++ x2) #[] (List.replicate (if its.toArray.isEmpty = true then 0 else k.toNat) its.toArray) = (List.replicate k.toNat its).flatten.toArray := by
    have f0 : ∀ m : Nat, List.foldl (fun x1 x2 => x1 ++ x2) #[] (List.replicate m its.toArray) = (List.replicate m its).flatten.toArray := fun m => by
      have := foldl_rep its m []
      rw [List.nil_append] at this
      exact this
    rw [f0]
    cases its with
    | nil => simp
    | cons a r' => rw [if_neg (by simp)]
  refine wpAny_binaryOp_repeat_ref (T := "list") (U := "int") (by decide) ⟨_, e, rfl⟩ (fun s' => typeIs_int s' k t) noFill_list_mul F.fills_int_mul F.slot_int_rmul repeat_list F.slot_int_index.lookup
    (call_meets F.slot_int_rmul (typeIs_int s k t) F.entry_int_rmul (F.args_int_rmul_2 _ _) (int___rmul___int_list k t l its.toArray n)
      ⟨e, rfl, ⟨_, e, rfl⟩, call_meets F.slot_list_mul ⟨_, e, rfl⟩ F.entry_list_mul (F.args_list_mul_2 _ _) (AutoListH.list___mul___list_int_3 l its.toArray n k t hfit hcap hlong) ⟨e, ?_⟩⟩)
  rw [hnew]
  exact ⟨.ref _, _, I.lnew (t' := s.toks) (r.rep k.toNat) (by rw [PyProof.Rows.lm_len_rep_flat, Nat.mul_comm]; exact hz), rfl, q _ I.fresh⟩
theorem tmul_one (l : Addr) (items : Array Value) (n : Nat) (dd : Option Addr) (sl : Array (Option Value)) (u : Tok) :
    Meets (Builtin.«tuple.__mul__» ⟨[.ref l, .int 1 u], []⟩) (fun _ R s => s.heap.get? l = some { cls := .type "tuple", dict := dd, data := .seq items n, slots := sl } ∧ R (.ok (.ret (Value.ref l))) s) :=
  .of_wp fun prog w A R s h => by
    obtain ⟨hp, g, d, tk, os⟩ := s
    obtain ⟨hl, h⟩ := h
    have f1 := AutoSeq1.idx_int
    wp_walk using wpAny_loadPart' hl
    repeat (first
      | (refine wpAny_ite_true (by simp) ?_; wp_walk using wpAny_loadPart' hl)
      | (refine wpAny_ite_false (by simp) ?_; wp_walk using wpAny_loadPart' hl))
    exact ⟨_, rfl, h⟩
theorem tmul_none (l : Addr) (items : Array Value) (n : Nat) (dd : Option Addr) (sl : Array (Option Value)) (u : Tok) (hne : items.isEmpty = false) :
    Meets (Builtin.«tuple.__mul__» ⟨[.ref l, .int 0 u], []⟩) (fun _ R s => s.heap.get? l = some { cls := .type "tuple", dict := dd, data := .seq items n, slots := sl } ∧
      R (.ok (.ret (Value.ref s.heap.objs.size))) { s with heap := s.heap.push { cls := Value.type "tuple", data := Data.seq #[] }, toks := s.toks }) :=
  .of_wp fun prog w A R s h => by
    obtain ⟨hp, g, d, tk, os⟩ := s
    obtain ⟨hl, h⟩ := h
    have f1 := AutoSeq1.idx_int
    have z0 : (#[] : Array Value).size ≤ sizeLine := Nat.zero_le _
    wp_walk using wpAny_loadPart' hl
    repeat (first
      | (refine wpAny_ite_true (by simp [hne]) ?_; wp_walk using wpAny_loadPart' hl)
      | (refine wpAny_ite_false (by simp [hne]) ?_; wp_walk using wpAny_loadPart' hl))
    exact ⟨_, rfl, h⟩
theorem rep_tuple {pins : List (Addr × Obj)} {s : Shared} {σ : St} {H : Hp} {l : Addr} {k : Int} {t : Tok} {xs : List V} {Q : VK} (I : Inv X pins σ H s) (hT : SqT X.K H l xs) (hne : xs ≠ []) (hk : k = 0 ∨ k = 1) (q1 : k = 1 → Q (.ref l) H) (q0 : k = 0 → ∀ p, H p = none → Q (.ref p) (upd H p (.tup []))) :
    wpAny (model X.prog X.w) X.A (binaryOp .Mult (.ref l) (.int k t)) (EP X pins σ Q) X.xe s := by
  obtain ⟨its, r, ⟨⟨cls, dd, data, sl⟩, ho, hc, n, hd⟩, hs⟩ := I.tuple hT
  simp only at hc hd
  subst hc hd
  have full : its.toArray.isEmpty = false := by
    cases r with
    | nil => exact absurd rfl hne
    | cons _ _ => rfl
  refine wpAny_binaryOp_repeat_ref (T := "tuple") (U := "int") (by decide) ⟨_, ho, rfl⟩ (fun s' => typeIs_int s' k t) noFill_tuple_mul F.fills_int_mul F.slot_int_rmul repeat_tuple F.slot_int_index.lookup ?_
  refine call_meets F.slot_int_rmul (typeIs_int s k t) F.entry_int_rmul (F.args_int_rmul_2 _ _) (int_rmul_tuple k t l its.toArray n dd sl) ⟨ho, rfl, ⟨_, ho, rfl⟩, ?_⟩
  rcases hk with rfl | rfl
  · refine call_meets F.slot_tuple_mul ⟨_, ho, rfl⟩ F.entry_tuple_mul (F.args_tuple_mul_2 _ _) (tmul_none l its.toArray n dd sl t full) ⟨ho, ?_⟩
    exact ⟨.ref s.heap.objs.size, _, I.laid (t' := s.toks) (o := .tup []) (fun b ob q => Heap.get?_push_of_some _ q) (Nat.le_refl _) ⟨Nat.zero_le _, [], .nil, IsTup.new _ _⟩, rfl, q0 rfl _ (I.hok.fresh (Nat.le_refl _))⟩
  · refine call_meets F.slot_tuple_mul ⟨_, ho, rfl⟩ F.entry_tuple_mul (F.args_tuple_mul_2 _ _) (tmul_one l its.toArray n dd sl t) ⟨ho, ?_⟩
    exact ⟨.ref l, H, I, rfl, q1 rfl⟩
theorem fop_mul : OpR X (binaryOp .Mult) (rF2 X.K opMul) := by
  intro pins s σ H x y v u Q I rx ry ⟨Z, d, e, Qf, hz, hd, he, g, q⟩
  unfold opMul at g
  split at g
  · cases hd.int; cases he.int
    exact op_mulW pins s σ H _ _ v u Q I rx ry ⟨_, _, rfl, rfl, g.1, q _ H Z _ (.d hz (.int _)) g.2⟩
  · obtain ⟨p, vs, rfl, h1, h2, h3⟩ := hd.list hz
    cases he.int
    cases rx
    obtain ⟨t, rfl⟩ := ry
    have l1 := h3.length
    have rr : ∀ n : Nat, RpAll X.K Z (List.replicate n vs).flatten (List.replicate n _).flatten := fun n => by
      induction n with
      | zero => exact .nil
      | succ n ih => rw [List.replicate_succ, List.flatten_cons, List.replicate_succ, List.flatten_cons]; exact h3.append ih
    refine rep_list I h1 g.1 g.2.1 (by rw [l1]; exact g.2.2.1) fun n hn => q _ _ Z _ (.lst hz hn ?_ (rr _)) g.2.2.2
    rw [(rr _).length, List.length_flatten, List.map_replicate, List.sum_replicate_nat, Nat.mul_comm]
    exact g.2.2.1
  · obtain ⟨g1, g2, g3, g4, g5⟩ := g
    obtain ⟨p, vs, rfl, h1, h2, h3⟩ := hd.tuple hz
    have ez : Rp X.K Z (.ref p) (.tuple _) := fop_add.RpV.tupZ hd
    cases he.int
    have l1 := h3.length
    have rr : ∀ n : Nat, RpAll X.K Z (List.replicate n vs).flatten (List.replicate n _).flatten := fun n => by
      induction n with
      | zero => exact .nil
      | succ n ih => rw [List.replicate_succ, List.flatten_cons, List.replicate_succ, List.flatten_cons]; exact h3.append ih
    have hne : vs ≠ [] := fun e => g1 (List.eq_nil_of_length_eq_zero (by rw [← l1, e]; rfl))
    rename_i k
    by_cases hk : k = 0 ∨ k = 1
    · obtain ⟨t, rfl⟩ := ry
      cases rx
      refine rep_tuple I h1 hne hk (fun e => ?_) fun e n hn => ?_
      · subst e
        rw [show (List.replicate (1 : Int).toNat _).flatten = _ from List.append_nil _] at g5
        exact q _ H Z _ (.d hz ez) g5
      · subst e
        exact q _ _ _ _ (.tup hz hn (Nat.zero_le _) .nil) g5
    · refine op_repT pins s σ H _ _ v u Q I rx ry ⟨p, k, vs, rfl, rfl, h1, hne, by omega, g3, by omega, fun n hn => ?_⟩
      refine q _ _ _ _ (.tup hz hn ?_ (rr _)) g5
      rw [(rr _).length, List.length_flatten, List.map_replicate, List.sum_replicate_nat]
      show _ ≤ 16777216
      have a1 : k.toNat * _ ≤ 1000 * 1000 := Nat.mul_le_mul (by omega) g4
      omega
  · exact g.elim
theorem fop_fdiv : OpR X (binaryOp .FloorDiv) (rF2 X.K opFdiv) := by
  intro pins s σ H x y v u Q I rx ry ⟨Z, d, e, Qf, hz, hd, he, g, q⟩
  unfold opFdiv at g
  split at g
  · cases hd.int; cases he.int
    exact op_fdivW pins s σ H _ _ v u Q I rx ry ⟨_, _, rfl, rfl, g.1, q _ H Z _ (.d hz (.int _)) g.2⟩
  · exact g.elim
theorem fop_mod : OpR X (binaryOp .Mod) (rF2 X.K opMod) := by
  intro pins s σ H x y v u Q I rx ry ⟨Z, d, e, Qf, hz, hd, he, g, q⟩
  unfold opMod at g
  split at g
  · cases hd.int; cases he.int
    refine op_modN pins s σ H _ _ v u Q I rx ry ⟨_, _, rfl, rfl, by have := g.1; omega, ?_⟩
    have g1 := g.1
    show Q (.int (Int.fmod _ _)) H
    rw [Int.fmod_eq_emod_of_nonneg _ (by omega)]
    exact q _ H Z _ (.d hz (.int _)) g.2
  · exact g.elim
theorem fop_pow : OpR X (binaryOp .Pow) (rF2 X.K opPow) := by
  intro pins s σ H x y v u Q I rx ry ⟨Z, d, e, Qf, hz, hd, he, g, q⟩
  unfold opPow at g
  split at g
  · cases hd.int; cases he.int
    exact op_pow pins s σ H _ _ v u Q I rx ry ⟨_, _, rfl, rfl, ⟨g.1, g.2.1, g.2.2.1⟩, q _ H Z _ (.d hz (.int _)) g.2.2.2⟩
  · exact g.elim
theorem fun_neg : UnR X (unaryOp .USub) (rF1 X.K uNeg) := by
  intro pins s σ H x v Q I rx ⟨Z, d, Qf, hz, hd, g, q⟩
  unfold uNeg at g
  split at g
  · cases hd.int
    exact un_neg pins s σ H _ v Q I rx ⟨_, rfl, q _ H Z _ (.d hz (.int _)) g⟩
  · exact g.elim
mutual
theorem Rp.dp : ∀ (d : PyData) (v : V), d.canLay0 = true → Rp K H v d → Dp K H v d
  | .none, _, _, .non => .non
  | .bool _, _, _, .bl b => .bl b
  | .int _, _, _, .int i => .int i
  | .str _, _, _, .str x => .str x
  | .list ds, _, h, .lst q z a => .lst (.inl q) (RpAll.dp ds _ (by simpa [PyData.canLay0] using h) a)
  | .tuple ds, _, h, .tup q z a => .tup (tupSq q) (RpAll.dp ds _ (by simpa [PyData.canLay0] using h) a)
  | .dict _, _, h, _ => by simp [PyData.canLay0] at h
theorem RpAll.dp : ∀ (ds : List PyData) (vs : List V), PyData.canLayAll0 ds = true → RpAll K H vs ds → DpAll K H vs ds
  | [], _, _, .nil => .nil
  | d :: ds, _, h, .cons r a => by
    have h' : d.canLay0 = true ∧ PyData.canLayAll0 ds = true := by simpa [PyData.canLayAll0] using h
    exact .cons (Rp.dp d _ h'.1 r) (RpAll.dp ds _ h'.2 a)
end
theorem RpV.dp {v : V} {d : D} (r : RpV K Z H v d) (e : Same Z H) (h : SeqAt.shaped d = true) : Dp K H v d := Rp.dp d v (SeqAt.canLay_of_shaped h) (r.rp e)
theorem RpV.dpU {v : V} {d : D} (r : RpV K Z H v d) (e : Same Z H) (h : SeqAt.shaped (unlit d) = true) : Dp K H v (unlit d) := by
  revert h
  unfold unlit
  split
  · rename_i xs
    intro h
    obtain ⟨p, ns, rfl, rfl, h1, h2⟩ := r.lit e
    exact .lst h1 (dpInts ns)
  · intro h
    exact r.dp e h
where dpInts : ∀ ns : List Int, DpAll K H (ns.map V.int) (ns.map PyData.int)
  | [] => .nil
  | n :: ns => .cons (.int n) (dpInts ns)
theorem fop_eq (hu : X.A.units + 64 < cLine) : OpR X (compareOp .Eq) (rF2 X.K cEq) := by
  intro pins s σ H x y v u Q I rx ry ⟨Z, d, e, Qf, hz, hd, he, g, q⟩
  rcases g with ⟨z, z', rfl, rfl, g⟩ | ⟨g1, g2, g⟩
  · cases hd.str; cases he.str
    refine op_eq pins s σ H _ _ v u Q I rx ry ⟨rfl, ?_⟩
    rw [show decide (V.str z = V.str z') = decide (z = z') by simp]
    exact q _ H Z _ (.d hz (.bl _)) g
  exact op_eqD hu pins s σ H x y v u Q I rx ry ⟨_, _, hd.dpU hz g1, he.dpU hz g2, g1, g2, q _ H Z _ (.d hz (.bl _)) g⟩
theorem fop_ne (hu : X.A.units + 64 < cLine) : OpR X (compareOp .NotEq) (rF2 X.K cNe) := by
  intro pins s σ H x y v u Q I rx ry ⟨Z, d, e, Qf, hz, hd, he, g, q⟩
  rcases g with ⟨z, z', rfl, rfl, g⟩ | ⟨g1, g2, g⟩
  · cases hd.str; cases he.str
    refine op_ne pins s σ H _ _ v u Q I rx ry ⟨rfl, ?_⟩
    rw [show decide (V.str z = V.str z') = decide (z = z') by simp]
    exact q _ H Z _ (.d hz (.bl _)) g
  exact op_neD hu pins s σ H x y v u Q I rx ry ⟨_, _, hd.dpU hz g1, he.dpU hz g2, g1, g2, q _ H Z _ (.d hz (.bl _)) g⟩
theorem intsOf_eq : ∀ {xs : List D} {ns : List Int}, intsOf xs = some ns → xs = ns.map PyData.int
  | [], ns, h => by cases h; rfl
  | x :: xs, ns, h => by
    cases x with
    | int i =>
      unfold intsOf at h
      cases e : intsOf xs with
      | none => rw [e] at h; cases h
      | some ms =>
        rw [e] at h
        cases h
        rw [intsOf_eq e]; rfl
    | _ => unfold intsOf at h; cases h
theorem boolsOf_eq : ∀ {xs : List D} {ns : List Bool}, boolsOf xs = some ns → xs = ns.map PyData.bool
  | [], ns, h => by cases h; rfl
  | x :: xs, ns, h => by
    cases x with
    | bool i =>
      unfold boolsOf at h
      cases e : boolsOf xs with
      | none => rw [e] at h; cases h
      | some ms =>
        rw [e] at h
        cases h
        rw [boolsOf_eq e]; rfl
    | _ => unfold boolsOf at h; cases h
theorem boolsOf_map : ∀ ns : List Bool, boolsOf (ns.map PyData.bool) = some ns
  | [] => rfl
  | n :: ns => by show (boolsOf (ns.map PyData.bool)).map (n :: ·) = _; rw [boolsOf_map ns]; rfl
theorem fop_lt (hu : X.A.units < cLine) : OpR X (compareOp .Lt) (rF2 X.K cLt) := by
  intro pins s σ H x y v u Q I rx ry ⟨Z, d, e, Qf, hz, hd, he, g, q⟩
  unfold cLt at g
  split at g
  · cases hd.int; cases he.int
    exact op_lt pins s σ H _ _ v u Q I rx ry ⟨_, _, rfl, rfl, q _ H Z _ (.d hz (.bl _)) g⟩
  · split at g
    · rename_i ns ms e1 e2
      obtain ⟨p, vs, rfl, h1, h2, h3⟩ := hd.tuple hz
      obtain ⟨p', vs', rfl, h1', h2', h3'⟩ := he.tuple hz
      rw [intsOf_eq e1] at h3
      rw [intsOf_eq e2] at h3'
      rw [h3.ints] at h1
      rw [h3'.ints] at h1'
      exact op_ltT hu pins s σ H _ _ v u Q I rx ry ⟨p, p', ns, ms, rfl, rfl, h1, h1', q _ H Z _ (.d hz (.bl _)) g⟩
    · exact g.elim
  · exact g.elim
theorem fop_le : OpR X (compareOp .LtE) (rF2 X.K cLe) := by
  intro pins s σ H x y v u Q I rx ry ⟨Z, d, e, Qf, hz, hd, he, g, q⟩
  unfold cLe at g
  split at g
  · cases hd.int; cases he.int
    exact op_le pins s σ H _ _ v u Q I rx ry ⟨_, _, rfl, rfl, q _ H Z _ (.d hz (.bl _)) g⟩
  · exact g.elim
theorem fop_gt : OpR X (compareOp .Gt) (rF2 X.K cGt) := by
  intro pins s σ H x y v u Q I rx ry ⟨Z, d, e, Qf, hz, hd, he, g, q⟩
  unfold cGt at g
  split at g
  · cases hd.int; cases he.int
    exact op_gt pins s σ H _ _ v u Q I rx ry ⟨_, _, rfl, rfl, q _ H Z _ (.d hz (.bl _)) g⟩
  · exact g.elim
theorem fop_ge : OpR X (compareOp .GtE) (rF2 X.K cGe) := by
  intro pins s σ H x y v u Q I rx ry ⟨Z, d, e, Qf, hz, hd, he, g, q⟩
  unfold cGe at g
  split at g
  · cases hd.int; cases he.int
    exact op_ge pins s σ H _ _ v u Q I rx ry ⟨_, _, rfl, rfl, q _ H Z _ (.d hz (.bl _)) g⟩
  · exact g.elim
theorem fop_in (hu : X.A.units + 65 < cLine) : OpR X (compareOp .In) (rF2 X.K cIn) := by
  intro pins s σ H x y v u Q I rx ry ⟨Z, d, e, Qf, hz, hd, he, g, q⟩
  unfold cIn at g
  split at g
  · exact op_inD hu pins s σ H _ _ v u Q I rx ry ⟨d, _, hd.dp hz g.1, he.dp hz g.2.1, g.1, g.2.1, q _ H Z _ (.d hz (.bl _)) g.2.2⟩
  · obtain ⟨as, r1⟩ := Dp.reads I d x v (hd.dp hz g.1) rx
    obtain ⟨bs, r2⟩ := Dp.reads I _ y u (he.dp hz g.2.1) ry
    exact SeqAt.in_tuple_reads r2 r1 (by have := SeqAt.canLay_of_shaped g.2.1; simpa [PyData.canLay0] using this) (SeqAt.canLay_of_shaped g.1) (room_in_shaped g.1 hu) ⟨.bl _, H, I, rfl, q _ H Z _ (.d hz (.bl _)) g.2.2⟩
  · exact g.elim
theorem rp_none {v : V} {d : D} (r : Rp K H v d) : decide (v = .non) = isNone d := by cases r <;> rfl
theorem fop_is : OpR X (compareOp .Is) (rF2 X.K cIs) := by
  intro pins s σ H x y v u Q I rx ry ⟨Z, d, e, Qf, hz, hd, he, g, q⟩
  unfold cIs at g
  split at g
  · cases he.non
    refine op_isN pins s σ H _ _ v u Q I rx ry ⟨rfl, ?_⟩
    rw [rp_none (hd.rp hz)]
    exact q _ H Z _ (.d hz (.bl _)) g
  · cases hd.bool; cases he.bool
    exact op_is_bl pins s σ H _ _ v u Q I rx ry ⟨_, _, rfl, rfl, q _ H Z _ (.d hz (.bl _)) g⟩
  · exact g.elim
theorem fop_isNot : OpR X (compareOp .IsNot) (rF2 X.K cIsNot) := by
  intro pins s σ H x y v u Q I rx ry ⟨Z, d, e, Qf, hz, hd, he, g, q⟩
  unfold cIsNot at g
  split at g
  · cases he.non
    refine op_notN pins s σ H _ _ v u Q I rx ry ⟨rfl, ?_⟩
    rw [rp_none (hd.rp hz)]
    exact q _ H Z _ (.d hz (.bl _)) g
  · cases hd.bool; cases he.bool
    exact op_isnot_bl pins s σ H _ _ v u Q I rx ry ⟨_, _, rfl, rfl, q _ H Z _ (.d hz (.bl _)) g⟩
  · exact g.elim
theorem RpAll.atI {vs : List V} {ds : List D} {i : Int} {d : D} (r : RpAll K Z vs ds) (e : L2.atI ds i = some d) : ∃ v, L2.atI vs i = some v ∧ Rp K Z v d := by
  unfold L2.atI at e ⊢
  rw [r.length]
  cases h : ixN ds.length i with
  | none => rw [h] at e; cases e
  | some j => rw [h] at e; exact r.get e
theorem fix_d : IxR X (rF2 X.K ixD) := by
  intro value slice pins s σ H x y v u Q I rx ry ⟨Z, d, e, Qf, hz, hd, he, g, q⟩ hpl
  unfold ixD at g
  split at g
  · split at g
    · obtain ⟨p, vs, rfl, h1, h2, h3⟩ := hd.list hz
      cases he.int
      obtain ⟨w, hw, rw'⟩ := h3.atI (by assumption)
      exact ix_list value slice pins s σ H _ _ v u Q I rx ry ⟨p, vs, _, w, rfl, rfl, .inl h1, hw, q _ H Z _ (.d hz rw') g⟩ hpl
    · exact g.elim
  · split at g
    · obtain ⟨p, vs, rfl, h1, h2, h3⟩ := hd.tuple hz
      cases he.int
      obtain ⟨w, hw, rw'⟩ := h3.atI (by assumption)
      exact ix_tup value slice pins s σ H _ _ v u Q I rx ry ⟨p, vs, _, w, rfl, rfl, h1, hw, q _ H Z _ (.d hz rw') g⟩ hpl
    · exact g.elim
  · obtain ⟨g1, g2⟩ := g
    split at g2
    · cases hd.str
      cases he.int
      exact ix_str value slice pins s σ H _ _ v u Q I rx ry ⟨_, _, _, rfl, rfl, g1, by assumption, q _ H Z _ (.d hz (.str _)) g2⟩ hpl
    · exact g2.elim
  · split at g
    · obtain ⟨p, ns, rfl, rfl, h1, h2⟩ := hd.lit hz
      cases he.int
      rename_i x heq
      obtain ⟨w, hw, rz⟩ := RpAll.atI (RpAll.of_ints (K := X.K) (H := Z) ns) heq
      exact ix_list value slice pins s σ H _ _ v u Q I rx ry ⟨p, _, _, w, rfl, rfl, h1, hw, q _ H Z _ (.d hz rz) g⟩ hpl
    · exact g.elim
  · exact g.elim
end
end Hs
namespace Hs
open PySem PySem.Spec PyProof.Rows L2
section
variable {X : Cx} {L : Lv} {e a b c : Expr} {es : List Expr} {fa fb fc : FE} {ft fu : FT} {fr : FA} {pos p : Pos}
variable {K : PySem.W.Frag}
def liftO (X : Cx) (L : Lv) (fo : FO) : TO := fun σ H Q => ∃ Z Y s Xf Qf, Rel X.K Z Y H σ s ∧ L.keeps σ ∧ XOk X L Z Y Xf ∧ fo Xf s Qf ∧ ∀ o H' Z' s', Same Z Z' → Rel X.K Z' Y H' σ s' → Qf o s' → Q o H'
def PFO (X : Cx) (L : Lv) (e : Option Expr) (fo : FO) : Prop := PO X e (liftO X L fo)
theorem PO_imp {eo : Option Expr} {t t' : TO} (h : PO X eo t) (hi : ∀ σ H Q, t' σ H Q → t σ H Q) : PO X eo t' := ⟨fun pins s σ H Q I q => h.run pins s σ H Q I (hi σ H Q q)⟩
theorem pfo_none : PFO X L none fNoPart := PO_imp po_none fun σ H Q ⟨Z, Y, s, Xf, Qf, r, k, xo, h, q⟩ => q none H Z s (Same.refl _) r h
theorem pfo_some (h : PF X L e fa) : PFO X L (some e) (fPart fa) := PO_imp (po_some h) fun σ H Q ⟨Z, Y, s, Xf, Qf, r, k, xo, h, q⟩ => by
  refine ⟨Z, Y, s, Xf, _, r, k, xo, h, fun v H1 Z1 r1 s1 hz rx h1 => ?_⟩
  split at h1
  · exact ⟨_, rx.vi, q _ H1 Z1 s1 hz rx.rel0 h1⟩
  · exact h1.elim
def rFs (K : PySem.W.Frag) (g : D → Option Int → Option Int → (R → Prop) → Prop) : V → Option Int → Option Int → Hp → VK → Prop := fun x lo hi H Q => ∃ Z d Qf, Same Z H ∧ RpV K Z H x d ∧ g d lo hi Qf ∧ ∀ u H' Z' r, NewR K Z H Z' H' u r → Qf r → Q u H'
theorem fSl_ok {g : D → Option Int → Option Int → (R → Prop) → Prop} {fl fh : FO} {σ : St} {H : Hp} {Q : VK} (h : liftE X L (fSl g fa fl fh) σ H Q) : tSl (rFs X.K g) (liftE X L fa) (liftO X L fl) (liftO X L fh) σ H Q := by
  obtain ⟨Z, Y, s, Xf, Qf, r, k, xo, h, q⟩ := h
  refine ⟨Z, Y, s, Xf, _, r, k, xo, h, fun v H1 Z1 r1 s1 hz rx h1 => ?_⟩
  obtain ⟨Y', hy, rl, bk, fw⟩ := rx.frame
  refine ⟨Z1, Y', s1, Xf, _, rl, k, (xo.z hz).mono (Same.refl _) bk, h1, fun lo H2 Z2 s2 hz2 r2 h2 => ?_⟩
  refine ⟨Z2, Y', s2, Xf, _, r2, k, (xo.z (hz.trans hz2)).mono (Same.refl _) fun Z' H' σ' s' hz' => bk Z' H' σ' s' (hz2.trans hz'), h2, fun hi H3 Z3 s3 hz3 r3 h3 => ?_⟩
  have rx3 := fw Z3 H3 s3 [] [] (hz2.trans hz3) (.nil r3)
  obtain ⟨d, e1, h4⟩ := look_ok h3
  obtain ⟨v', ev, rv⟩ := rx3.look (k := 0) rfl e1
  cases ev
  exact ⟨Z3, d, _, rx3.rel0.zh, rv, h4, fun u H' Z' r n hq => q u H' Z' r s3 (((hz.trans hz2).trans hz3).trans n.hz) (rx3.rel0.new n) hq⟩
theorem RpAll.cut {Z : Hp} {vs : List V} {ds : List D} (r : RpAll K Z vs ds) (lo hi : Option Int) : RpAll K Z (cutV vs lo hi) (slD.cutL ds lo hi) := by
  unfold cutV slD.cutL
  rw [r.length]
  exact (r.drop _).take _
theorem fsl : SlR X (rFs X.K slD) := by
  intro pins s σ H x v vl vu lo hi sl Q I rx hs pl pu ⟨Z, d, Qf, hz, hd, g, q⟩
  unfold slD at g
  split at g
  · obtain ⟨p, vs, rfl, h1, h2, h3⟩ := hd.list hz
    exact sl_list pins s σ H _ v vl vu lo hi sl Q I rx hs pl pu ⟨p, vs, rfl, .inl h1, fun n hn => q _ _ Z _ (.lst hz hn (Nat.le_trans (cutV_length vs lo hi) h2) (h3.cut lo hi)) g⟩
  · obtain ⟨p, vs, rfl, h1, h2, h3⟩ := hd.tuple hz
    refine sl_tupA pins s σ H _ v vl vu lo hi sl Q I rx hs pl pu ⟨p, vs, rfl, h1, fun hw => ?_, fun hw n hn => q _ _ _ _ (.tup hz hn (Nat.le_trans (cutV_length vs lo hi) h2) (h3.cut lo hi)) g⟩
    rename_i xs0
    have e : slD.cutL xs0 lo hi = xs0 := by
      unfold slD.cutL
      rw [← h3.length, hw.1, hw.2, h3.length, Nat.sub_zero, List.drop_zero, List.take_length]
    rw [e] at g
    exact q _ H Z _ (.d hz (fop_add.RpV.tupZ hd)) g
  · exact g.elim
theorem pf_sl {lo hi : Option Expr} {fl fh : FO} {p2 : Pos} (he : PF X L e fa) (hl : PFO X L lo fl) (hh : PFO X L hi fh) : PF X L (.Subscript e (.Slice lo hi none p2) pos) (fSl slD fa fl fh) := PE_imp (pe_slice fsl he hl hh) fun _ _ _ => fSl_ok
inductive RpVs (K : PySem.W.Frag) (Z H : Hp) : List V → List D → Prop
  | nil : RpVs K Z H [] []
  | cons {v : V} {vs : List V} {d : D} {ds : List D} : RpV K Z H v d → RpVs K Z H vs ds → RpVs K Z H (v :: vs) (d :: ds)
def rFN (K : PySem.W.Frag) (g : VN) : List V → Hp → VK → Prop := fun vs H Q => ∃ Z ds Qf, Same Z H ∧ RpVs K Z H vs ds ∧ g ds Qf ∧ ∀ u H' Z' r, NewR K Z H Z' H' u r → Qf r → Q u H'
theorem lookAll_ok {Z H : Hp} {s : S} : ∀ {rs : List R} {vs : List V} {k : List D → Prop}, vs.length = rs.length → (∀ (j : Nat) q d, rs[j]? = some q → viewR s q = some d → ∃ v, vs[j]? = some v ∧ RpV K Z H v d) → fBlt.lookAll s rs k → ∃ ds, RpVs K Z H vs ds ∧ k ds
  | [], [], k, hl, hv, h => ⟨[], .nil, h⟩
  | [], _ :: _, k, hl, hv, h => by cases hl
  | r :: rs, [], k, hl, hv, h => by cases hl
  | r :: rs, v :: vs, k, hl, hv, h => by
    obtain ⟨d, e, h2⟩ := look_ok h
    obtain ⟨v', ev, rv⟩ := hv 0 r d rfl e
    cases ev
    obtain ⟨ds, rr, h3⟩ := lookAll_ok (by simpa using hl) (fun j q d h1 h2 => hv (j + 1) q d h1 h2) h2
    exact ⟨d :: ds, .cons rv rr, h3⟩
theorem fBlt_ok {g : VN} {n : Nat} {σ : St} {H : Hp} {Q : VK} (h : liftE X L (fBlt g fr) σ H Q) : tCB (rFN X.K g) (liftA X L n fr) σ H Q := by
  obtain ⟨Z, Y, s, Xf, Qf, r, k, xo, h, q⟩ := h
  refine ⟨Z, Y, s, Xf, _, r, k, xo, h, fun vs H1 Z1 rs s1 hz rx hn h1 => ?_⟩
  obtain ⟨ds, rr, h2⟩ := lookAll_ok rx.l2 (fun j q d e1 e2 => rx.look e1 e2) h1
  exact ⟨Z1, ds, _, rx.rel0.zh, rr, h2, fun u H' Z' r n hq => q u H' Z' r s1 (hz.trans n.hz) (rx.rel0.new n) hq⟩
variable {x : Str} {id T : String}
theorem pf_blt {g : VN} (hc : CallR X (.builtin id) (rFN X.K g)) (hm : X.mg x = none) (hv : bootBuiltins x = some (.builtin id)) (ha : PFA X L (e :: es) fr) (hg : Gl X x := by rfl) (hn : x ≠ "__name__" := by decide) (hdb : (x == ("__debug__" : Str)) = false := by decide)
    (he : starEach (e :: es) X.env = (false, eval e X.env) :: starEach es X.env := by rfl) (hpl : (backTo pos (starEach es X.env)).any (·.1) = false := by rfl) : PF X L (.Call (.Name x p) (e :: es) [] pos) (fBlt g fr) := PE_imp (pe_callB hc hg hm hv ha hn hdb he hpl) fun _ _ _ => fBlt_ok
theorem pf_bty {g : VN} (hc : CallR X (.type T) (rFN X.K g)) (hm : X.mg x = none) (hv : bootBuiltins x = some (.type T)) (ha : PFA X L (e :: es) fr) (hg : Gl X x := by rfl) (hn : x ≠ "__name__" := by decide) (hdb : (x == ("__debug__" : Str)) = false := by decide)
    (he : starEach (e :: es) X.env = (false, eval e X.env) :: starEach es X.env := by rfl) (hpl : (backTo pos (starEach es X.env)).any (·.1) = false := by rfl) : PF X L (.Call (.Name x p) (e :: es) [] pos) (fBlt g fr) := PE_imp (pe_callTy hc hg hm hv ha hn hdb he hpl) fun _ _ _ => fBlt_ok
theorem RpVs.one {Z H : Hp} {vs : List V} {d : D} (r : RpVs K Z H vs [d]) : ∃ v, vs = [v] ∧ RpV K Z H v d := by
  cases r with
  | cons h r => cases r; exact ⟨_, rfl, h⟩
theorem RpVs.two {Z H : Hp} {vs : List V} {d e : D} (r : RpVs K Z H vs [d, e]) : ∃ v w, vs = [v, w] ∧ RpV K Z H v d ∧ RpV K Z H w e := by
  cases r with
  | cons h r =>
    cases r with
    | cons h2 r => cases r; exact ⟨_, _, rfl, h, h2⟩
theorem fb_len : CallR X (.builtin "len") (rFN X.K bLen) := by
  intro pins s σ H vs us Q I rv ⟨Z, ds, Qf, hz, rr, g, q⟩
  unfold bLen at g
  split at g
  · obtain ⟨v, rfl, r1⟩ := rr.one
    obtain ⟨p, vs, rfl, h1, h2, h3⟩ := r1.list hz
    exact call_len pins s σ H _ us Q I rv ⟨_, vs.length, rfl, .inl ⟨vs, .inl h1, rfl⟩, by rw [h3.length]; exact q _ H Z _ (.d hz (.int _)) g⟩
  · obtain ⟨v, rfl, r1⟩ := rr.one
    obtain ⟨p, vs, rfl, h1, h2, h3⟩ := r1.tuple hz
    exact call_len pins s σ H _ us Q I rv ⟨_, vs.length, rfl, .inr ⟨vs, h1, rfl⟩, by rw [h3.length]; exact q _ H Z _ (.d hz (.int _)) g⟩
  · obtain ⟨v, rfl, r1⟩ := rr.one
    cases r1.str
    exact call_len pins s σ H _ us Q I rv ⟨_, _, rfl, ⟨g.1, rfl⟩, q _ H Z _ (.d hz (.int _)) g.2⟩
  · obtain ⟨v, rfl, r1⟩ := rr.one
    obtain ⟨p, ns, rfl, rfl, h1, h2⟩ := r1.lit hz
    exact call_len pins s σ H _ us Q I rv ⟨_, _, rfl, .inl ⟨_, h1, rfl⟩, by rw [List.length_map]; rw [List.length_map] at g; exact q _ H Z _ (.d hz (.int _)) g⟩
  · exact g.elim
theorem fb_abs : CallR X (.builtin "abs") (rFN X.K bAbs) := by
  intro pins s σ H vs us Q I rv ⟨Z, ds, Qf, hz, rr, g, q⟩
  unfold bAbs at g
  split at g
  · obtain ⟨v, rfl, r1⟩ := rr.one
    cases r1.int
    exact call_abs pins s σ H _ us Q I rv ⟨_, rfl, q _ H Z _ (.d hz (.int _)) g⟩
  · exact g.elim
theorem fb_max2 (hc : X.calm = true) : CallR X (.builtin "max") (rFN X.K bMax2) := by
  intro pins s σ H vs us Q I rv ⟨Z, ds, Qf, hz, rr, g, q⟩
  unfold bMax2 at g
  split at g
  · obtain ⟨v, w, rfl, r1, r2⟩ := rr.two
    cases r1.int; cases r2.int
    exact call_max2 hc pins s σ H _ us Q I rv ⟨_, _, rfl, q _ H Z _ (.d hz (.int _)) g⟩
  · exact g.elim
theorem fb_min2 (hc : X.calm = true) : CallR X (.builtin "min") (rFN X.K bMin2) := by
  intro pins s σ H vs us Q I rv ⟨Z, ds, Qf, hz, rr, g, q⟩
  unfold bMin2 at g
  split at g
  · obtain ⟨v, w, rfl, r1, r2⟩ := rr.two
    cases r1.int; cases r2.int
    exact call_min2 hc pins s σ H _ us Q I rv ⟨_, _, rfl, q _ H Z _ (.d hz (.int _)) g⟩
  · exact g.elim
theorem fb_int : CallR X (.type "int") (rFN X.K bInt) := by
  intro pins s σ H vs us Q I rv ⟨Z, ds, Qf, hz, rr, g, q⟩
  unfold bInt at g
  split at g
  · obtain ⟨v, rfl, r1⟩ := rr.one
    cases r1.int
    exact call_int1 pins s σ H _ us Q I rv (.inl ⟨_, rfl, q _ H Z _ (.d hz (.int _)) g⟩)
  · obtain ⟨v, rfl, r1⟩ := rr.one
    cases r1.bool
    exact call_int1 pins s σ H _ us Q I rv (.inr ⟨_, rfl, q _ H Z _ (.d hz (.int _)) g⟩)
  · exact g.elim
theorem fb_tuple : CallR X (.type "tuple") (rFN X.K bTuple) := by
  intro pins s σ H vs us Q I rv ⟨Z, ds, Qf, hz, rr, g, q⟩
  unfold bTuple at g
  split at g
  · obtain ⟨v, rfl, r1⟩ := rr.one
    obtain ⟨p, vs, rfl, h1, h2, h3⟩ := r1.list hz
    exact call_tuple_of pins s σ H _ us Q I rv ⟨p, vs, rfl, .inl ⟨.inl h1, fun n hn => q _ _ _ _ (.tup hz hn h2 h3) g⟩⟩
  · obtain ⟨v, rfl, r1⟩ := rr.one
    obtain ⟨p, vs, rfl, h1, h2, h3⟩ := r1.tuple hz
    exact call_tuple_of pins s σ H _ us Q I rv ⟨p, vs, rfl, .inr ⟨h1, q _ H Z _ (.d hz (fop_add.RpV.tupZ r1)) g⟩⟩
  · exact g.elim
theorem fb_list : CallR X (.type "list") (rFN X.K bList) := by
  intro pins s σ H vs us Q I rv ⟨Z, ds, Qf, hz, rr, g, q⟩
  unfold bList at g
  split at g
  · obtain ⟨v, rfl, r1⟩ := rr.one
    obtain ⟨p, vs, rfl, h1, h2, h3⟩ := r1.list hz
    exact call_list_of pins s σ H _ us Q I rv ⟨p, vs, rfl, .inl (.inl h1), fun n hn => q _ _ Z _ (.lst hz hn h2 h3) g⟩
  · obtain ⟨v, rfl, r1⟩ := rr.one
    obtain ⟨p, vs, rfl, h1, h2, h3⟩ := r1.tuple hz
    exact call_list_of pins s σ H _ us Q I rv ⟨p, vs, rfl, .inr h1, fun n hn => q _ _ Z _ (.lst hz hn h2 h3) g⟩
  · exact g.elim
theorem fb_all (hc : X.calm = true) : CallR X (.builtin "all") (rFN X.K bAll) := by
  intro pins s σ H vs us Q I rv ⟨Z, ds, Qf, hz, rr, g, q⟩
  unfold bAll at g
  split at g
  · split at g
    · rename_i eb
      obtain ⟨v, rfl, r1⟩ := rr.one
      obtain ⟨p, vs, rfl, h1, h2, h3⟩ := r1.list hz
      rw [boolsOf_eq eb] at h3
      rw [h3.bools] at h1
      exact cr_all hc pins s σ H _ us Q I rv ⟨p, _, rfl, .inl h1, q _ H Z _ (.d hz (.bl _)) g⟩
    · exact g.elim
  · exact g.elim
theorem fb_any (hc : X.calm = true) : CallR X (.builtin "any") (rFN X.K bAny) := by
  intro pins s σ H vs us Q I rv ⟨Z, ds, Qf, hz, rr, g, q⟩
  unfold bAny at g
  split at g
  · split at g
    · rename_i eb
      obtain ⟨v, rfl, r1⟩ := rr.one
      obtain ⟨p, vs, rfl, h1, h2, h3⟩ := r1.list hz
      rw [boolsOf_eq eb] at h3
      rw [h3.bools] at h1
      exact cr_any hc pins s σ H _ us Q I rv ⟨p, _, rfl, .inl h1, q _ H Z _ (.d hz (.bl _)) g⟩
    · exact g.elim
  · exact g.elim
def tyName : D → String
  | .none => "NoneType"
  | .bool _ => "bool"
  | .int _ => "int"
  | .str _ => "str"
  | .list _ => "list"
  | .tuple _ => "tuple"
  | .dict _ => "dict"
theorem tyX_of {H : Hp} {v : V} {d : D} (r : Rp K H v d) (hl : isLit d = false) : TyX K H v (.type (tyName d)) := by
  cases r with
  | lit h z => cases hl
  | exc h => cases hl
  | obj h1 h2 a => cases hl
  | non => exact .base .non
  | bl b => exact .base (.bl b)
  | int i => exact .base (.int i)
  | str x => exact .base (.str x)
  | lst h z a =>
    rcases h with h | ⟨o, h⟩
    · exact .base (.lst h)
    · exact .base (.frz h)
  | tup h z a => exact .base (.tup h)
  | dcK h a =>
    rcases h with h | ⟨o, h⟩
    · exact .base (.dK h)
    · exact .fDict h
  | dcT h a => exact .base (.dT h)
/-- the classes that are asked for -/
inductive AskTy : String → Prop
  | int : AskTy "int" | bool : AskTy "bool" | tuple : AskTy "tuple" | list : AskTy "list" | str : AskTy "str" | dict : AskTy "dict"
def tyB (n T : String) : Bool := n == T || (n == "bool" && T == "int")
theorem kitTab : ∀ n ∈ ["NoneType", "bool", "int", "str", "list", "tuple", "dict"], ∀ T ∈ ["int", "bool", "tuple", "list", "str", "dict"], kitB n T = some (tyB n T) := by decide +kernel
theorem tyName_mem (d : D) : tyName d ∈ ["NoneType", "bool", "int", "str", "list", "tuple", "dict"] := by cases d <;> simp [tyName]
theorem isTy_eq {T : String} (h : AskTy T) (d : D) : isTy T d = tyB (tyName d) T := by cases h <;> cases d <;> rfl
theorem kit_is {T : String} (h : AskTy T) (d : D) : PySem.W.kitOne K (.type (tyName d)) (.type T) = some (isTy T d) := by
  rw [isTy_eq h]
  exact kit_ty (kitTab _ (tyName_mem d) T (by cases h <;> simp))
theorem pf_isinst {T : String} {tx : Str} {p2 : Pos} (hT : AskTy T) (ha : PF X L a fa) (hm : X.mg "isinstance" = none) (hmT : X.mg tx = none) (hbT : bootBuiltins tx = some (.type T)) (hg : Gl X "isinstance" := by rfl) (hgT : Gl X tx := by rfl)
    (hnT : tx ≠ "__name__" := by decide) (hdT : (tx == ("__debug__" : Str)) = false := by decide) (he : starEach [a, .Name tx p2] X.env = (false, eval a X.env) :: starEach [.Name tx p2] X.env := by rfl) (he2 : starEach [.Name tx p2] X.env = (false, eval (.Name tx p2) X.env) :: starEach [] X.env := by rfl)
    (hpl : (backTo pos (starEach [.Name tx p2] X.env)).any (·.1) = false := by rfl) : PF X L (.Call (.Name "isinstance" p) [a, .Name tx p2] [] pos) (fUn (bIs T) fa) :=
  PE_imp (pe_callB call_isi hg hm (by decide +kernel) (pa_cons ha (pa_cons (pe_bltn (v := .ty T) hgT hmT hbT rfl hnT hdT) pa_nil he2) he) (by decide) (by decide) he hpl) fun σ H Q ⟨Z, Y, s, Xf, Qf, r, k, xo, h, q⟩ => by
  refine ⟨Z, Y, s, Xf, _, r, k, xo, h, fun v H1 Z1 r1 s1 hz rx h1 => ?_⟩
  obtain ⟨d, e1, h3⟩ := look_ok h1
  obtain ⟨v', ev, rv⟩ := rx.look (k := 0) rfl e1
  cases ev
  exact ⟨v, .ty T, _, .type T, _, rfl, .ty T, tyX_of (rv.rp rx.rel0.zh) h3.1, kit_is hT d, q _ H1 Z1 _ s1 hz (.d rx.rel0 (.bl _)) h3.2⟩
def rLm (K : PySem.W.Frag) (g : LM) : V → List V → Hp → VK → Prop := fun x us H Q => ∃ Z p vs xs ds Qf, x = .ref p ∧ H p = some (.lst vs) ∧ vs.length ≤ sizeLine ∧ RpAll K Z vs xs ∧ Same Z H ∧ RpAll K Z us ds ∧ g xs ds Qf ∧
  ∀ u d vs' xs', Qf d xs' → Rp K Z u d → vs'.length ≤ sizeLine → RpAll K Z vs' xs' → Q u (upd H p (.lst vs'))
theorem onL_ok {i : Nat} {s : S} {k : List D → Prop} (h : onL i s k) : ∃ xs, s.getD i .no = .l xs ∧ k xs := by
  unfold onL at h
  generalize s.getD i .no = w at h
  cases w with
  | l xs => exact ⟨xs, rfl, h⟩
  | _ => exact h.elim
theorem Rel.slotL {Z Y H : Hp} {σ : St} {s : S} (r : Rel K Z Y H σ s) {i : Nat} {xs : List D} (e : s.getD i .no = .l xs) : ∃ p vs, σ.getD i none = some (.ref p) ∧ H p = some (.lst vs) ∧ vs.length ≤ sizeLine ∧ RpAll K Z vs xs := by
  obtain ⟨F, q⟩ := r.slot i
  rw [e] at q
  obtain ⟨p, vs, h1, _, h3, h4, h5⟩ := q
  exact ⟨p, vs, h1, h3, h4, h5⟩
theorem fLm_ok {i n : Nat} {g : LM} {σ : St} {H : Hp} {Q : VK} (h : liftE X L (fLm i g fr) σ H Q) : tBM X.K "list" (rLm X.K g) (tVar i) (liftA X L n fr) σ H Q := by
  obtain ⟨Z, Y, s, Xf, Qf, r, k, xo, h, q⟩ := h
  obtain ⟨xs0, e0, h⟩ := onL_ok h
  obtain ⟨p, vs, hv, hp, _, _⟩ := r.slotL e0
  refine ⟨.ref p, getD_some hv, .inl ⟨rfl, vs, .inl (.inl hp)⟩, Z, Y, s, Xf, _, r, k, xo, h, fun us H1 Z1 rs s1 hz rx hn h1 => ?_⟩
  obtain ⟨Z2, ds, s2, hz2, rx2, h2⟩ := frzAll_ok (us := []) (ds := []) rx rfl h1
  obtain ⟨xs, e2, h3⟩ := onL_ok h2
  have r2 := rx2.rel0
  obtain ⟨p', vs', hv', hp', hl', ra'⟩ := r2.slotL e2
  rw [hv] at hv'
  cases hv'
  refine ⟨Z2, p, vs', xs, ds, _, rfl, hp', hl', ra', r2.zh, rx2.rps, h3, fun u d vs2 xs2 hq ru hl2 ra2 => ?_⟩
  have w := r2.write (i := i) (xs' := xs2) (vs' := vs2) e2 hv hl2 ra2
  exact q u _ Z2 _ _ (hz.trans hz2) (.d w ru) hq
variable {nm : Str} {apos cpos : Pos} {y : Str} {px : Pos}
theorem pf_lm (i : Nat) {g : LM} (slot : Slot "list" nm id) (hty : typeOf (.builtin id) = pure (.type "method_descriptor")) (hm : MtR X id (rLm X.K g)) (ha : PFA X L (e :: es) fr)
    (ho : PE X (.Name y px) (tVar i)) (hbase : attributeBase (.Name y px) nm X.env (eval (.Name y px) X.env) = eval (.Name y px) X.env := by rfl)
    (hfew : ((backTo cpos (starEach (e :: es) X.env)).all (fun x => !x.1) && (backToKw cpos (keywordEach [] X.env)).all (fun x => x.1.isSome)
      && decide ((e :: es).length + ([] : List Keyword).length + (if ([] : List Keyword).isEmpty then 0 else 1) < 30)) = true := by rfl)
    (hline : (apos.endLine == cpos.line) = true := by rfl) (hs : starEach (e :: es) X.env = (false, eval e X.env) :: starEach es X.env := by rfl) (hplain : (backTo cpos (starEach es X.env)).any (·.1) = false := by rfl) :
    PF X L (.Call (.Attribute (.Name y px) nm apos) (e :: es) [] cpos) (fLm i g fr) := PE_imp (pe_bm PySem.F.plainAttrs_list slot hty hm ho ha hbase hfew hline hs hplain) fun _ _ _ => fLm_ok
theorem fm_append : MtR X "list.append" (rLm X.K mAppend) := by
  intro pins s σ H x us v vs Q I rx rv ⟨Z, p, ws, xs, ds, Qf, ex, hp, hl, ra, hz, rd, g, q⟩
  unfold mAppend at g
  split at g
  · cases rd with
    | cons r1 r2 =>
      cases r2
      have l1 := ra.length
      exact mt_append pins s σ H x _ v vs Q I rx rv ⟨p, ws, _, ex, rfl, hp, by omega, q _ _ _ _ g.2 .non (by rw [List.length_append]; show ws.length + 1 ≤ _; omega) (ra.append (.cons r1 .nil))⟩
  · exact g.elim
theorem RpAll.erase {Z : Hp} {vs : List V} {ds : List D} (r : RpAll K Z vs ds) (i : Nat) : RpAll K Z (vs.eraseIdx i) (ds.eraseIdx i) := by
  rw [List.eraseIdx_eq_take_drop_succ, List.eraseIdx_eq_take_drop_succ]
  exact (r.take i).append (r.drop (i + 1))
theorem ext_lists {pins : List (Addr × Obj)} {s : Shared} {σ : St} {H : Hp} {l b : Addr} {xs zs : List V} {v u : Value} {Q : VK} (I : Inv X pins σ H s) (hH : H l = some (.lst xs)) (hB : Rd H b (.lst zs)) (hz : xs.length + zs.length ≤ sizeLine) (q : Q .non (upd H l (.lst (xs ++ zs)))) :
    wpAny (model X.prog X.w) X.A (call (.builtin "list.extend") [.ref l, .ref b]) (EP X pins σ Q) X.xe s := by
  obtain ⟨z, its, n, r, hl, e⟩ := I.lstM hH
  obtain ⟨z2, its2, n2, r2, e2⟩ := hB.ok I.hok
  have hl2 := r2.length
  have hsz : its.toArray.size + its2.toArray.size ≤ sizeLine := by rw [List.size_toArray, List.size_toArray]; omega
  have hlong : ¬ (!its.toArray.isEmpty && Builtin.List.listTooLong (its.toArray.size + its2.toArray.size)) = true := by
    rw [notLongL hsz, Bool.and_false]
    exact Bool.false_ne_true
  refine call_meets F.slot_list_extend ⟨_, e, rfl⟩ F.entry_list_extend (F.args_list_extend_2 _ _)
    (AutoSeq1.list_extend_list_list_0 l its.toArray n b its2.toArray n2 hlong (by rw [List.size_toArray]; omega) (by omega)) ⟨e, e2, ?_⟩
  refine ⟨.non, _, I.lset (its' := its ++ its2) hH e (by simp) (r.append r2) ?_, rfl, q⟩
  rw [List.length_append]
  omega
theorem fm_extend : MtR X "list.extend" (rLm X.K mExtend) := by
  intro pins s σ H x us v vs Q I rx rv ⟨Z, p, ws, xs, ds, Qf, ex, hp, hl, ra, hz, rd, g, q⟩
  unfold mExtend at g
  split at g
  · cases rd with
    | cons r1 r2 =>
      cases r2
      subst ex
      cases rx
      cases r1 with
      | lst h z a =>
        obtain ⟨u, rfl, ru⟩ := rv.one
        cases ru
        have l1 := ra.length
        have l2 := a.length
        exact ext_lists (v := .none) (u := .none) I hp (same_rd hz h) (by omega) (q _ _ _ _ g.2 .non (by rw [List.length_append]; omega) (ra.append a))
  · exact g.elim
theorem pfs_setIx (i : Nat) {po : Pos} {j : Expr} {fj : FE} (he : PF X L e fa) (ho : PE X (.Name y px) (tVar i)) (hj : PF X L j fj)
    (ha : ∀ v, assign (.Subscript (.Name y px) j po) X.env v = (do
      let ov ← holding [v] (eval (.Name y px) X.env)
      let iv ← holding [v, ov] (eval j X.env)
      standAt po
      holding [v, ov, iv] (setItem ov iv v)
      release [v, ov, iv] []) := by intro _; rfl) (hs : swapsWithSole [.Subscript (.Name y px) j po] e pos.line X.env = pure false := by rfl) (hw : swappedStores [.Subscript (.Name y px) j po] e X.env = pure none := by rfl)
    (h1 : (assignEach [.Subscript (.Name y px) j po] X.env).map (·.2) = [assign (.Subscript (.Name y px) j po) X.env] := by rfl) : PFS X L (.Assign [.Subscript (.Name y px) j po] e pos) (fSetIx i fj fa) :=
  PS_imp (ps_asg he (pg_sub ho hj set_list ha) hs hw h1) fun D σ H ⟨Z, Y, s, Ef, r, k, h, eo⟩ => by
  refine ⟨Z, Y, s, Ef.xx, _, r, k, eo.xx, h, fun v H1 Z1 r1 s1 hz rx h1 => ?_⟩
  obtain ⟨xs0, e0, h1⟩ := onL_ok h1
  obtain ⟨q, vs0, hv, _, _, _⟩ := rx.rel0.slotL e0
  obtain ⟨Y', hy, rl, bk, fw⟩ := rx.frame
  refine ⟨.ref q, getD_some hv, Z1, Y', s1, Ef.xx, _, rl, k, (eo.xx.z hz).mono (Same.refl _) bk, h1, fun w H2 Z2 rj s2 hz2 rx2 h2 => ?_⟩
  split at h2
  · rename_i kk
    have ew := rx2.vi
    subst ew
    have rx3 := fw Z2 H2 s2 [] [] hz2 (.nil rx2.rel0)
    obtain ⟨Z3, d, s3, hz3, rx4, h3⟩ := frz_ok (us := []) (ds := []) (vs := []) (rs := []) rx3 rfl h2
    obtain ⟨xs, e2, h0, hlt, h4⟩ := onL_ok h3
    obtain ⟨q', vs', hv', hp', hl', ra'⟩ := rx4.rel0.slotL e2
    rw [hv] at hv'
    cases hv'
    have w := rx4.rel0.write (i := i) (xs' := xs.set kk.toNat d) (vs' := vs'.set kk.toNat v) e2 hv (by rw [List.length_set]; exact hl') (ra'.set rx4.vd _)
    refine ⟨q, vs', kk, kk.toNat, rfl, rfl, hp', ?_, eo.nx σ _ Z3 _ ((hz.trans hz2).trans hz3) k w h4⟩
    unfold ixN
    rw [if_pos h0, if_pos (by rw [ra'.length]; omega)]
  · exact h2.elim
end
end Hs
namespace Hs
open PySem PySem.Spec PyProof.Rows L2
/-- what is known of a text: the head's facts, the base below -/
structure TxOk (fa : List He.Fa) (fn : List He.DefD) (K : PySem.W.Frag) (mg : Str → Option Value) (base : Heap) : Prop where
  c : He.SaysD fa fn K
  X : K.In base
  G : base.Ns mainGlobals mg
section
variable {fa : List He.Fa} {fn : List He.DefD} {K : PySem.W.Frag} {mg : Str → Option Value} {base : Heap}
theorem TxOk.free (T : TxOk fa fn K mg base) (i : Nat) {x : Str} (h : fa[i]? = some (.free x) := by rfl) : mg x = none := He.free_ok T.X T.G (T.c.fact i h)
theorem TxOk.glo (T : TxOk fa fn K mg base) (i : Nat) {x : Str} (h : fa[i]? = some (.glo x) := by rfl) : mg x = some (.ref (He.ga K x)) := He.glo_ok T.X T.G (T.c.fact i h)
theorem TxOk.int (T : TxOk fa fn K mg base) (i : Nat) {x : Str} {z : Int} (h : fa[i]? = some (.int x z) := by rfl) : ∃ t, mg x = some (.int z t) := He.int_ok T.X T.G (T.c.fact i h)
theorem TxOk.str (T : TxOk fa fn K mg base) (i : Nat) {x z : Str} (h : fa[i]? = some (.str x z) := by rfl) : ∃ t, mg x = some (.str z t) := He.str_ok T.X T.G (T.c.fact i h)
theorem TxOk.exc (T : TxOk fa fn K mg base) (i : Nat) {x : Str} (h : fa[i]? = some (.exc x) := by rfl) : PySem.W.excIn K (He.ga K x) He.veBase "ValueError.__new__" = true ∧ PySem.W.keepIn K (.ref (He.ga K x)) = true ∧ PySem.W.subIn K (.ref (He.ga K x)) (.type "BaseException") = some true ∧ PySem.W.typeIn K (.ref (He.ga K x)) = some (.type "type") := He.exc_ok (T.c.fact i h)
end
/-- a def of the text -/
def Df (P : Program) (w : World) (K : PySem.W.Frag) (mg : Str → Option Value) (base : Heap) (x : Str) (k : Nat) (ps : List Str) (ms : List Bool) (sem : FSem) : Prop :=
  ∃ f fd, FnOk P w K mg base (L2.CX P w) k f fd ps (liftSp K mg (ioOf ms) ps.length sem) ∧ Binds K fd ps [] ∧ mg x = some (.ref f) ∧ PySem.W.keepIn K (.ref f) = true
theorem funOf {K : PySem.W.Frag} {x q : Str} {st : Stmt} {f : Addr} {fd : FuncData} {kws : List (Str × V)} (F : FunD K x q (defArgs st) (defBody st) (defScope st) [] kws f fd) : Fun K x q st f fd := by
  obtain ⟨oc, od, dV, kV, doc, pm, an, cdv, ct, osl, e, l, c, hd, hk⟩ := F.ex
  rcases hd with ⟨h0, h1⟩ | ⟨h0, _⟩
  · subst h1
    exact ⟨⟨oc, od, kV, doc, pm, an, cdv, ct, osl, e, l, c⟩, F.kp⟩
  · exact (h0 rfl).elim
section
variable {P : Program} {w : World} {K : PySem.W.Frag} {mg : Str → Option Value} {base : Heap} {fa : List He.Fa} {fn : List He.DefD}
theorem dfOk (T : TxOk fa fn K mg base) {x : Str} {st : Stmt} {N ps : List Str} {ms : List Bool} {bd : FS} {k : Nat} (i j : Nat) (sco : FnScope N ps (defScope st)) (hnp : ps.length ≤ N.length)
    (hbi : ∀ (kV doc pm : Value) (an : Option Addr) (cdv ct : Value) (us : List Value), us.length = ps.length → bindArgs (PySem.W.fnOf x x (defArgs st) (defBody st) (defScope st) .none kV doc pm an cdv ct) ⟨us, []⟩ = pure (ps.zip us))
    (hb : ∀ (f : Addr) (cdv : Value) (A : Around) (outer : List Env) (s : Shared) (H : Hp) (vs : List V) (E : XK), Room k (A.deeper (envOfC x (defScope st) s.heap.objs.size f cdv)) →
      PFSs (cxOf (L2.CX P w) P w K mg base N x (defScope st) f cdv A outer s H E) ⟨fun cls d _ H => E cls d H, ioOf ms, L2.start N vs⟩ (defBody st) bd)
    (h : fn[i]? = some (dOf x st) := by rfl) (hg : fa[j]? = some (.glo x) := by rfl) : Df P w K mg base x (k + 1) ps ms (semOf ps.length N.length bd) := by
  obtain ⟨fd, F⟩ := T.c.def_ i h
  exact ⟨_, fd, okF (funOf F) sco hnp fun cdv A outer s H vs E hr => hb _ cdv A outer s H vs E hr, F.bindsN hbi, T.glo j hg, F.kp⟩
/-- a def of which nothing is said yet -/
theorem dfNone (T : TxOk fa fn K mg base) {x : Str} {st : Stmt} {ps : List Str} {ms : List Bool} {k : Nat} (i j : Nat)
    (hbi : ∀ (kV doc pm : Value) (an : Option Addr) (cdv ct : Value) (us : List Value), us.length = ps.length → bindArgs (PySem.W.fnOf x x (defArgs st) (defBody st) (defScope st) .none kV doc pm an cdv ct) ⟨us, []⟩ = pure (ps.zip us))
    (h : fn[i]? = some (dOf x st) := by rfl) (hg : fa[j]? = some (.glo x) := by rfl) : Df P w K mg base x k ps ms (fun _ _ _ => False) := by
  obtain ⟨fd, F⟩ := T.c.def_ i h
  exact ⟨_, fd, ⟨fun vs H Q E ⟨_, _, _, _, _, hl, _⟩ => hl, fun A outer s H args us vs Q E hr he hb hv ⟨_, _, _, _, _, _, _, no, _⟩ => no.elim⟩, F.bindsN hbi, T.glo j hg, F.kp⟩
theorem Df.up {x : Str} {j k : Nat} {ps : List Str} {ms : List Bool} {sem : FSem} (D : Df P w K mg base x j ps ms sem) (h : j ≤ k) : Df P w K mg base x k ps ms sem := by
  obtain ⟨f, fd, F, b, m, kp⟩ := D
  exact ⟨f, fd, F.mono h, b, m, kp⟩
variable {X : Cx} {L : Lv} {e a b : Expr} {es : List Expr} {fr : FA} {pos p : Pos} {x : Str} {ps : List Str} {ms : List Bool} {k : Nat}
theorem pf_callD {sem : FSem} (D : Df X.prog X.w X.K X.mg X.base x k ps ms sem) (hr : Room k X.A) (hx : ∀ σ, PassesAt (L2.CX X.prog X.w) X σ (fun cls d H => L.E cls d σ H)) (ha : PFA X L (e :: es) fr) (hl : ps.length = es.length + 1 := by rfl) (hg : Gl X x := by rfl)
    (hn : ms.length = es.length + 1 := by rfl) (hdb : (x == ("__debug__" : Str)) = false := by decide) (he : starEach (e :: es) X.env = (false, eval e X.env) :: starEach es X.env := by rfl) (hpl : (backTo pos (starEach es X.env)).any (·.1) = false := by rfl) :
    PF X L (.Call (.Name x p) (e :: es) [] pos) (fCall sem ms fr) := by
  obtain ⟨f, fd, F, bi, m, kp⟩ := D
  rw [hl] at F
  exact pf_call F hr m kp bi hx ha hg hn hdb he hpl
theorem _root_.L2.Room.u64 {A : Around} (r : Room k A) : A.units + 64 < cLine := by have := r.un; omega
theorem _root_.L2.Room.u65 {A : Around} (r : Room k A) : A.units + 65 < cLine := by have := r.un; omega
theorem pfs_raise {C : Addr} {m : Str} {j : Nat} {p2 pos' : Pos} (hc : X.calm = true) (tk : Takes X L.E) (gC : X.mg x = some (.ref C))
    (q : PySem.W.excIn X.K C He.veBase "ValueError.__new__" = true ∧ PySem.W.keepIn X.K (.ref C) = true ∧ PySem.W.subIn X.K (.ref C) (.type "BaseException") = some true ∧ PySem.W.typeIn X.K (.ref C) = some (.type "type")) (hg : Gl X x := by rfl) (hdb : (x == ("__debug__" : Str)) = false := by decide) :
    PFS X L (.Raise (some (.Call (.Name x p) [.Constant (.str m) j p2] [] pos)) none pos') (fRaise x) :=
  PS_imp (ps_raise hc tk (pmk_own PySem.F.excBase_ValueError q.1 gC q.2.1 (raises_own q.2.2.1 q.2.2.2) hg hdb)) fun D σ H ⟨Z, Y, s, Ef, r, kk, h, eo⟩ => eo.xx x C Z H σ s (Same.refl _) kk r h gC
theorem pf_globI {i : Int} (h : ∃ t, X.mg x = some (.int i t)) (hg : Gl X x := by rfl) (hd : (x == ("__debug__" : Str)) = false := by decide) : PF X L (.Name x pos) (fC (.int i)) := by
  obtain ⟨t, e⟩ := h
  exact pf_C (pe_glob (v := .int i) hg e ⟨t, rfl⟩ hd) fun _ => .int i
/-- a power of constants -/
theorem pf_powC {i j : Int} (r : Int) {k1 k2 : Nat} {p1 p2 : Pos} (h1 : 0 ≤ j := by decide) (h2 : j ≤ 1000000 := by decide) (h3 : i.natAbs < 2 ^ 64 := by decide) (e : i ^ j.toNat = r := by decide) : PF X L (.BinOp (.Constant (.int i) k1 p1) .Pow (.Constant (.int j) k2 p2) pos) (fC (.int r)) :=
  PE_imp (pf_op fop_pow pf_int pf_int) fun σ H Q ⟨Z, Y, s, Xf, Qf, rl, kk, xo, h, q⟩ => ⟨Z, Y, s, Xf, Qf, rl, kk, xo, ⟨h1, h2, h3, by rw [e]; exact h⟩, q⟩
theorem bb_len : bootBuiltins "len" = some (.builtin "len") := by decide +kernel
theorem bb_abs : bootBuiltins "abs" = some (.builtin "abs") := by decide +kernel
theorem bb_max : bootBuiltins "max" = some (.builtin "max") := by decide +kernel
theorem bb_min : bootBuiltins "min" = some (.builtin "min") := by decide +kernel
theorem bb_all : bootBuiltins "all" = some (.builtin "all") := by decide +kernel
theorem bb_any : bootBuiltins "any" = some (.builtin "any") := by decide +kernel
theorem bb_sorted : bootBuiltins "sorted" = some (.builtin "sorted") := by decide +kernel
theorem bb_int : bootBuiltins "int" = some (.type "int") := by decide +kernel
theorem bb_tuple : bootBuiltins "tuple" = some (.type "tuple") := by decide +kernel
theorem bb_list : bootBuiltins "list" = some (.type "list") := by decide +kernel
theorem bb_bool : bootBuiltins "bool" = some (.type "bool") := by decide +kernel
theorem lawSp {sem : FSem} {H : Hp} {a : Addr} {ns : List Int} {ms : List Bool} (hS : SqL K H a (ns.map V.int)) (hz : ns.length ≤ sizeLine) (h : sem [.d (litD ns)] (fun _ _ => False) (fun r _ => r = .d (.bool true))) :
    liftSp K mg (ioOf ms) 1 sem [.ref a] H (fun v _ => v = .bl true) fun _ _ _ => False := by
  refine ⟨H, fun _ => none, [.d (litD ns)], _, _, rfl, ⟨Same.refl _, fun a q e => (nomatch e), fun _ _ => rfl, fun _ _ e => (nomatch e), rfl, ⟨fun _ => [], ⟨fun i => ?_, fun _ => .nil, fun i j a ha => (nomatch ha), fun i a ha => (nomatch ha)⟩⟩⟩, h, ?_, ?_⟩
  · cases i with
    | zero => exact ⟨rfl, .ref a, rfl, .lit hS hz⟩
    | succ i => exact rfl
  · intro u H' Z' σ' fin r hz kk hl rx nt e
    subst e
    have q := rx.vd
    cases q
    rfl
  · intro n C H' Z' σ' fin _ _ _ _ h _
    exact h.elim
theorem walk_ofBE {l : PySem.W.OpenLaw} {n k : Nat} {q : Program} {loose : List Str} {XP : (Str → Option Value) → Heap → Prop} {YP : World → Heap → Prop} {d : DefRec} {ms : List Bool} {sem : FSem}
    (hn : l.most = some n) (hn2 : n ≤ sizeLine) (hdf : d.params.defaults = []) (hr : Room k callerA)
    (F : ∀ (w : World) (mg : Str → Option Value) (f : Addr) (h : Heap), YP w h → h.Ns mainGlobals mg → mg d.name = some (.ref f) →
      ∃ (K : PySem.W.Frag) (fd : FuncData), K.In h ∧ (∀ (s : Shared) (u : Value), BindsTo s fd ⟨[u], []⟩ [("script", u)]) ∧
        ∀ base : Heap, K.In base → base.Ns mainGlobals mg → FnOk l.prog w K mg base (L2.CX l.prog w) k f fd ["script"] (liftSp K mg (ioOf ms) 1 sem))
    (law : ∀ ns : List Int, ns.length ≤ n → (∀ z ∈ ns, Builtin.Int.intBits z ≤ 1048576) → sem [.d (litD ns)] (fun _ _ => False) (fun r _ => r = .d (.bool true))) :
    PySem.W.WalkO q loose XP YP l.row.toRowW d [] (fun f vs => PySem.call f vs) := by
  refine Att.attach_callB hn hdf fun w s₀ s₁ mg mb f o pm cd doc a vs ns G Y ho hd hcd hmg hobj hints hlen hbits hg => ?_
  obtain ⟨K, fd, KX, hb, hF⟩ := F w mg f _ Y G.T.g hmg
  exact law_call KX G.T.g G.T.b G.T.builtins G.T.nolimit hg hobj hints (Nat.le_trans hlen hn2) hr hF hb (fun H hO hS => lawSp hS (Nat.le_trans hlen hn2) (law ns hlen hbits)) fun H e s' ⟨_, _, _, _, _, _, _, _, _, _, _, _, z⟩ => z
end
end Hs
namespace Hs
open PySem PySem.Spec PyProof.Rows L2
def iEnumL (a : FA) : FI := fun X s Q => a X s fun rs s1 => frzAll rs s1 fun ds s2 => match ds with
  | [.list xs] => Q (enumD xs) s2
  | [.tuple xs] => Q (enumD xs) s2
  | _ => False
def iZipS (a : FA) : FI := fun X s Q => a X s fun rs s1 => frzAll rs s1 fun ds s4 => match ds with
  | [.list xs, .list ys] => Q (zipD xs ys) s4
  | [.tuple xs, .tuple ys] => Q (zipD xs ys) s4
  | _ => False
abbrev mkT (xs : List D) : R := .d (.tuple xs)
def fRg1 (mk : List D → R) (a : FE) : FE := fun X s Q => a X s fun r s1 => match r with
  | .d (.int j) => RgOk 0 j ∧ Q (mk (rangeD 0 j.toNat)) s1
  | _ => False
def fRg2 (mk : List D → R) (a b : FE) : FE := fun X s Q => a X s fun r1 s1 => b X s1 fun r2 s2 => match r1, r2 with
  | .d (.int i), .d (.int j) => RgOk i j ∧ Q (mk (rangeD i (j - i).toNat)) s2
  | _, _ => False
section
variable {X : Cx} {L : Lv} {e a b c : Expr} {es : List Expr} {fa fb fc : FE} {fr : FA} {pos p : Pos} {K : PySem.W.Frag} {Z H : Hp}
theorem enumD_get {xs : List D} {i : Nat} {d : D} (h : xs[i]? = some d) : (enumD xs)[i]? = some (.tuple [.int (i : Nat), d]) := by
  unfold enumD
  rw [List.getElem?_map, List.getElem?_zipIdx, h]
  simp
theorem enumD_len {xs : List D} : (enumD xs).length = xs.length := by unfold enumD; simp
theorem walks_enum {q : Addr} {vs : List V} {xs : List D} (h : SqL K Z q vs) (r : RpAll K Z vs xs) : Walks K Z (Ite K q) (enumD xs) where
  stop := fun i H e hi => ⟨vs, e.seq h, by rw [r.length]; rw [enumD_len] at hi; exact hi⟩
  go := fun i H e hi => by
    rw [enumD_len] at hi
    exact ⟨vs, vs[i]'(by rw [r.length]; exact hi), e.seq h, by simp⟩
  yld := fun i H v H' Zc e1 e2 hi ⟨T, x, ev, hT, eh, hv⟩ => by
    subst ev eh
    obtain ⟨d, hd, rd⟩ := r.getV (hv vs ((e1.trans e2).seq h))
    exact ⟨_, upd Zc T _, enumD_get hd, NewR.tup (xs := [.int (i : Nat), d]) e2 hT (by show 2 ≤ 16777216; decide) (.cons (.int _) (.cons (rd.same e1) .nil))⟩
set_option maxHeartbeats 4000000 in
theorem meets_enumerate_new1 {v : Value} {o : Obj} {H : Heap → Prop} (B : Begins v o H) :
    Meets (Builtin.«enumerate.__new__» ⟨[.type "enumerate", v], []⟩) (fun _ R s => H s.heap ∧
      R (.ok (.ret (.ref (s.heap.push o).objs.size))) { s with heap := (s.heap.push o).push { cls := .type "enumerate", data := .fields #[.none, .bool false, .ref s.heap.objs.size, rawInt 0, .none, .none] } }) :=
  .of_wp fun prog w A R s h => by
    obtain ⟨hp, g, d, tk, os⟩ := s; obtain ⟨h1, h⟩ := h
    have hsub := sub_enumerate
    have q1 : ∀ {A' : Around} {E : Value → Shared → Prop} {Q : Value → Shared → Prop}, Q (.ref hp.objs.size) ⟨hp.push o, g, d, tk, os⟩ → wpAny (model prog w) A' (pyIter v) Q E ⟨hp, g, d, tk, os⟩ :=
      fun q => B.iter prog w _ _ ⟨hp, g, d, tk, os⟩ _ h1 q
    wp_walk using q1
    refine wpAny_stack_any fun st => wpAny_pure ?_
    split
    · rename_i c _ _ _ _ _
      cases (c == Value.type "enumerate")
      · wp_walk using q1
        exact ⟨_, rfl, h⟩
      · wp_walk using q1
        exact ⟨_, rfl, h⟩
    · wp_walk using q1
      exact ⟨_, rfl, h⟩
theorem call_enumerate_tuple {prog : Program} {w : World} {A : Around} {E : Value → Shared → Prop} {s : Shared} {l : Addr} {items : Array Value} {Q : Value → Shared → Prop} (hL : s.heap.IsTuple l items)
    (h : ∀ h', IsEnum h' (s.heap.objs.size + 1) s.heap.objs.size 0 .none → h'.IsTupleIter s.heap.objs.size l 0 → h'.objs.size = s.heap.objs.size + 2 →
      (∀ b o, s.heap.get? b = some o → h'.get? b = some o) → Q (.ref (s.heap.objs.size + 1)) { s with heap := h' }) :
    wpAny (model prog w) A (call (.type "enumerate") [.ref l]) Q E s := by
  refine callType_new F.called_enumerate (by decide) (F.typeCall_enumerate_1 _) (F.newCall_enumerate_1 _) (fun obj => F.args_object_init_2 obj _) F.entry_enumerate_new
    (meets_enumerate_new1 (begins_tuple l items)) ⟨hL, ?_⟩
  have hz : (s.heap.push { cls := .type "tuple_iterator", data := .fields #[.ref l, .int 0 0] }).objs.size = s.heap.objs.size + 1 := Heap.size_push ..
  show _ ∧ _
  rw [hz]
  have he : IsEnum ((s.heap.push { cls := .type "tuple_iterator", data := .fields #[.ref l, .int 0 0] }).push
      { cls := .type "enumerate", data := .fields #[.none, .bool false, .ref s.heap.objs.size, rawInt 0, .none, .none] }) (s.heap.objs.size + 1) s.heap.objs.size 0 .none := by
    have := Heap.get?_push_size (s.heap.push { cls := .type "tuple_iterator", data := .fields #[.ref l, .int 0 0] })
      (o := { cls := .type "enumerate", data := .fields #[.none, .bool false, .ref s.heap.objs.size, rawInt 0, .none, .none] }) rfl
    rw [hz] at this; exact this
  refine ⟨⟨_, he, rfl⟩, h _ he ⟨_, Heap.get?_push_of_some _ (Heap.get?_push_size _ rfl), rfl, rfl⟩ (by rw [Heap.size_push, hz]) fun b o x => Heap.get?_push_of_some _ (Heap.get?_push_of_some _ x)⟩
theorem drawn_out {prog : Program} {w : World} {A : Around} (hh : A.handled = none) (it t : Addr) (items : Array Value) (i : Nat) (hi : items[i]? = none) :
    Draws prog w A it [it, t] i (fun _ _ => False) (fun j h => j = i ∧ h.IsTupleIter it t i ∧ h.IsTuple t items) where
  live := fun _ _ st => let ⟨o, ho, _⟩ := st.2.1; ⟨o, ho⟩
  frame := fun _ _ _ st hk => ⟨st.1, st.2.1.at fun o e => hk it (by simp) o e, st.2.2.at fun o e => hk t (by simp) o e⟩
  item := fun j s Q E hj st hQ => by have := st.1; omega
  done := fun s Q E st hE => wpAny_nextOf_tuple_end hh st.2.1 st.2.2 hi hE
def IteT (K : PySem.W.Frag) (a : Addr) : It :=
  ⟨fun i H => ∃ (xs : List V) (x : V), SqT K H a xs ∧ xs[i]? = some x, fun i H v H' => ∃ T x, v = .ref T ∧ H T = none ∧ H' = upd H T (.tup [.int (i : Nat), x]) ∧ ∀ xs, SqT K H a xs → xs[i]? = some x, fun i H => ∃ xs : List V, SqT K H a xs ∧ xs.length ≤ i⟩
theorem turn_enumT {P : Program} {w : World} {K : PySem.W.Frag} {elts : List Expr} {kk : Nat} {tpos : Pos} (a e it : Addr) :
    Turn P w K (.Tuple elts kk tpos) (IteT K a) [e, it] e (fun i h => (∃ old, IsEnum h e it ((i : Nat) : Int) old) ∧ h.IsTupleIter it a i ∧ e ≠ it ∧ e ≠ a ∧ a ≠ it) where
  mem := by simp
  obj := fun i h st b hb => by
    obtain ⟨⟨old, he⟩, ⟨o, ho, hc, hd⟩, _⟩ := st
    have e' : b = e ∨ b = it := by simpa using hb
    rcases e' with z | z
    · rw [z]; exact ⟨_, he, fun v q => nomatch q⟩
    · rw [z]; exact ⟨o, ho, fun v q => by rw [hd] at q; cases q⟩
  keep := fun i h h' st k => let ⟨⟨old, he⟩, hi, hne⟩ := st; ⟨⟨old, k e (by simp) _ he⟩, hi.at fun o q => k it (by simp) o q, hne⟩
  item := by
    intro X hP hw hK hc i pins s σ H E I hf st hg
    subst hP hw hK
    obtain ⟨⟨old, he⟩, hit, hne, hea, hai⟩ := st
    obtain ⟨xs, x, hq, hx⟩ := hg
    obtain ⟨its, rv, p, hz⟩ := I.tuple hq
    obtain ⟨u, hu, ru⟩ := rv.get hx
    have hel : e < s.heap.objs.size := Heap.lt_size he
    have hil : it < s.heap.objs.size := by obtain ⟨_, q, _⟩ := hit; exact Heap.lt_size q
    have hil2 : i < its.toArray.size := by
      have := (List.getElem?_eq_some_iff.mp hu).1
      simpa using this
    refine wpAny_pyNext_enum_itemC (A := X.A) (Draws.tuple (A := X.A.in1) (I.ok.hd hc) it a hai its.toArray) he ⟨hit, p⟩ hil2 hne (by simp [hne, hea]) fun y h' tk hy ho hs' hT hsz hk => ?_
    have hyu : y = u := by
      have : its.toArray[i]? = some u := by simpa using hu
      rw [this] at hy; exact (Option.some.inj hy).symm
    subst hyu
    refine ⟨_, rfl, wpAny_letOwnedTupleGo_enum (s := { s with heap := h', toks := tk + 1 }) ho fun h'' he' sb => ?_⟩
    have hT2 : h''.get? s.heap.objs.size = some { cls := .type "tuple", data := .seq #[.int i tk, y] } := (sb.2 _ (Nat.ne_of_gt hel)).trans hT
    have new : ObjOk X.prog X.w (upd H s.heap.objs.size (.tup [.int (i : Nat), x])) h'' s.heap.objs.size (.tup [.int (i : Nat), x]) :=
      ⟨by show 2 ≤ sizeLine; decide, [.int i tk, y], .cons ⟨_, rfl⟩ (.cons ru .nil), ⟨_, hT2, rfl, _, rfl⟩⟩
    have I1 : Inv X pins σ (upd H s.heap.objs.size (.tup [.int (i : Nat), x])) { s with heap := h'', toks := tk + 1 } :=
      I.turnedNew (ch := [e, it]) (fun b ob hb q => (sb.2 b (fun z => hb (by simp [z]))).trans (hk b ob (fun z => hb (by simp [z])) (fun z => hb (by simp [z])) q)) hf (Nat.le_refl _) new
    refine ⟨.ref s.heap.objs.size, _, I1, rfl, ⟨_, x, rfl, I.hok.fresh (Nat.le_refl _), rfl, fun ys hy => by rw [I.tuple_inj hy hq]; exact hx⟩, ⟨⟨y, ?_⟩, hs'.1.at fun o q => (sb.2 it (Ne.symm hne)).trans q, hne, hea, hai⟩, fun b hb => ?_⟩
    · have e1 : ((i + 1 : Nat) : Int) = (i : Int) + 1 := by omega
      rw [e1]; exact he'
    · have hb' : b < s.heap.objs.size := by
        have e' : b = e ∨ b = it := by simpa using hb
        rcases e' with z | z
        · rw [z]; exact hel
        · rw [z]; exact hil
      rw [upd_ne (Nat.ne_of_lt hb')]
      exact (hf b hb).1
  done := by
    intro X hP hw hK hc i pins s σ H E I hf st hg
    subst hP hw hK
    obtain ⟨⟨old, he⟩, hit, hne, hea, hai⟩ := st
    obtain ⟨xs, hq, hx⟩ := hg
    obtain ⟨its, rv, p, hz⟩ := I.tuple hq
    obtain ⟨f0, f1, f2, f3, f4, f5⟩ := hf it (by simp)
    have hl := rv.length
    refine wpAny_pyNext_enum_endD (A := X.A) (drawn_out (A := X.A.in1) (I.ok.hd hc) it a its.toArray i (by simp; omega)) he ⟨rfl, hit, p⟩ fun h' eb => ⟨rfl, I.turned (t' := s.toks) (fun b o hb q => eb b o hb q) f0 f1 f3 f4 f5⟩
  self := fun A i s Q E st h => let ⟨⟨_, he⟩, _⟩ := st; wpAny_pyIter_enum he h
def iEnumB (K : PySem.W.Frag) (ta : TA) : TI := fun σ H R => ta σ H fun vs H1 => ∃ a xs, vs = [.ref a] ∧ ((SqL K H1 a xs ∧ R (Ite K a) H1) ∨ (SqT K H1 a xs ∧ R (IteT K a) H1))
theorem pi_enumB {X : Cx} {e : Expr} {ta : TA} {p pos tpos : Pos} {elts : List Expr} {kk : Nat} (hg : Gl X "enumerate") (hm : X.mg "enumerate" = none) (ha : PA X [e] ta) (hs : starEach [e] X.env = [(false, eval e X.env)] := by rfl) :
    PI X (.Tuple elts kk tpos) (.Call (.Name "enumerate" p) [e] [] pos) (iEnumB X.K ta) := by
  refine ⟨fun pins s σ H R I h => ?_⟩
  refine Call_ (ld_blt I hg hm boot_enumerate (PyProof.Rows.callWith_type1 (thn (ha.run pos pins s σ H _ I h) fun us s1 ⟨vs, H1, I1, r1, q1⟩ => ?_) hs rfl))
  obtain ⟨a, xs, ex, q⟩ := q1
  subst ex
  cases r1 with
  | cons r rr =>
    cases rr
    cases r
    have apart : ∀ b, b = s1.heap.objs.size + 1 ∨ b = s1.heap.objs.size → s1.heap.objs.size ≤ b := fun b e' => by
      rcases e' with z | z
      · rw [z]; exact Nat.le_add_right _ _
      · rw [z]; exact Nat.le_refl _
    rcases q with ⟨hq, q⟩ | ⟨hq, q⟩
    · obtain ⟨its, rv, p', hz⟩ := I1.list hq
      refine call_enumerate_list p'.isList fun h' he hit hsz hk => wpAny_pyIter_enum he ?_
      have I2 : Inv X pins σ H1 { s1 with heap := h' } := I1.kept (t' := s1.toks) hk
      refine ⟨s1.heap.objs.size + 1, [s1.heap.objs.size + 1, s1.heap.objs.size], _, _, H1, rfl, I2, turn_enum a (s1.heap.objs.size + 1) s1.heap.objs.size, ⟨⟨.none, he⟩, hit, Nat.succ_ne_self _⟩, fun b hb => ?_, q⟩
      have hle := apart b (by simpa using hb)
      exact I1.fpOk hle (I1.hok.fresh hle)
    · obtain ⟨its, rv, p', hz⟩ := I1.tuple hq
      have hal : a < s1.heap.objs.size := by obtain ⟨_, q, _⟩ := p'; exact Heap.lt_size q
      refine call_enumerate_tuple p' fun h' he hit hsz hk => wpAny_pyIter_enum he ?_
      have I2 : Inv X pins σ H1 { s1 with heap := h' } := I1.kept (t' := s1.toks) hk
      refine ⟨s1.heap.objs.size + 1, [s1.heap.objs.size + 1, s1.heap.objs.size], _, _, H1, rfl, I2, turn_enumT a (s1.heap.objs.size + 1) s1.heap.objs.size, ⟨⟨.none, he⟩, hit, Nat.succ_ne_self _, (fun e => Nat.lt_irrefl _ (Nat.lt_trans (Nat.lt_succ_self _) (e ▸ hal))), Nat.ne_of_lt hal⟩, fun b hb => ?_, q⟩
      have hle := apart b (by simpa using hb)
      exact I1.fpOk hle (I1.hok.fresh hle)
theorem walks_enumT {q : Addr} {vs : List V} {xs : List D} (h : SqT K Z q vs) (r : RpAll K Z vs xs) : Walks K Z (IteT K q) (enumD xs) where
  stop := fun i H e hi => ⟨vs, same_sqT e h, by rw [r.length]; rw [enumD_len] at hi; exact hi⟩
  go := fun i H e hi => by
    rw [enumD_len] at hi
    exact ⟨vs, vs[i]'(by rw [r.length]; exact hi), same_sqT e h, by simp⟩
  yld := fun i H v H' Zc e1 e2 hi ⟨T, x, ev, hT, eh, hv⟩ => by
    subst ev eh
    obtain ⟨d, hd, rd⟩ := r.getV (hv vs (same_sqT (e1.trans e2) h))
    exact ⟨_, upd Zc T _, enumD_get hd, NewR.tup (xs := [.int (i : Nat), d]) e2 hT (by show 2 ≤ 16777216; decide) (.cons (.int _) (.cons (rd.same e1) .nil))⟩
theorem pfi_enum {elts : List Expr} {kk : Nat} {tpos : Pos} (hg : Gl X "enumerate") (hm : X.mg "enumerate" = none) (ha : PFA X L [a] fr) (hs : starEach [a] X.env = [(false, eval a X.env)] := by rfl) :
    PFI X L (.Tuple elts kk tpos) (.Call (.Name "enumerate" p) [a] [] pos) (iEnumL fr) := PI_imp (pi_enumB hg hm ha hs) fun σ H R ⟨Z, Y, s, Xf, Qf, r, k, xo, h, q⟩ => by
  refine ⟨Z, Y, s, Xf, _, r, k, xo, h, fun vs H1 Z1 rs s1 hz rx hn h1 => ?_⟩
  obtain ⟨Z2, ds, s2, hz2, rx2, h2⟩ := frzAll_ok (us := []) (ds := []) rx rfl h1
  have ra := rx2.rps
  split at h2
  · cases ra with
    | cons r1 r2 =>
      cases r2
      cases r1 with
      | lst hq hl hr => exact ⟨_, _, rfl, .inl ⟨.inl (same_rd rx2.rel0.zh hq), q _ H1 Z2 s2 _ (hz.trans hz2) rx2.rel0 (walks_enum (.inl hq) hr) h2⟩⟩
  · cases ra with
    | cons r1 r2 =>
      cases r2
      cases r1 with
      | tup hq hl hr =>
        have hq := tupSq (K := X.K) hq
        exact ⟨_, _, rfl, .inr ⟨same_sqT rx2.rel0.zh hq, q _ H1 Z2 s2 _ (hz.trans hz2) rx2.rel0 (walks_enumT hq hr) h2⟩⟩
  · exact h2.elim
theorem zipD_get {xs ys : List D} {i : Nat} {d e : D} (h : xs[i]? = some d) (h2 : ys[i]? = some e) : (zipD xs ys)[i]? = some (.tuple [d, e]) := by
  unfold zipD
  rw [List.getElem?_zipWith, h, h2]
theorem zipD_len {xs ys : List D} : (zipD xs ys).length = min xs.length ys.length := by unfold zipD; simp
theorem walks_zip {q q' : Addr} {vs ws : List V} {xs ys : List D} (h : SqL K Z q vs) (r : RpAll K Z vs xs) (h' : SqL K Z q' ws) (r' : RpAll K Z ws ys) : Walks K Z (Itz K q q') (zipD xs ys) where
  stop := fun i H e hi => ⟨vs, ws, e.seq h, e.seq h', by
    have e1 := r.length
    have e2 := r'.length
    rw [zipD_len] at hi
    omega⟩
  go := fun i H e hi => by
    have e1 := r.length
    have e2 := r'.length
    rw [zipD_len] at hi
    exact ⟨vs, ws, vs[i]'(by omega), ws[i]'(by omega), e.seq h, e.seq h', by simp, by simp⟩
  yld := fun i H v H' Zc e1 e2 hi ⟨T, x, y, ev, hT, eh, hv, hw⟩ => by
    subst ev eh
    obtain ⟨d, hd, rd⟩ := r.getV (hv vs ((e1.trans e2).seq h))
    obtain ⟨d', hd', rd'⟩ := r'.getV (hw ws ((e1.trans e2).seq h'))
    exact ⟨_, upd Zc T _, zipD_get hd hd', NewR.tup (xs := [d, d']) e2 hT (by show 2 ≤ 16777216; decide) (.cons (rd.same e1) (.cons (rd'.same e1) .nil))⟩
theorem walks_zipT {q q' : Addr} {vs ws : List V} {xs ys : List D} (h : SqT K Z q vs) (r : RpAll K Z vs xs) (h' : SqT K Z q' ws) (r' : RpAll K Z ws ys) : Walks K Z (RZ.ItzT K q q') (zipD xs ys) where
  stop := fun i H e hi => ⟨vs, ws, same_sqT e h, same_sqT e h', by
    have e1 := r.length
    have e2 := r'.length
    rw [zipD_len] at hi
    omega⟩
  go := fun i H e hi => by
    have e1 := r.length
    have e2 := r'.length
    rw [zipD_len] at hi
    exact ⟨vs, ws, vs[i]'(by omega), ws[i]'(by omega), same_sqT e h, same_sqT e h', by simp, by simp⟩
  yld := fun i H v H' Zc e1 e2 hi ⟨T, x, y, ev, hT, eh, hv, hw⟩ => by
    subst ev eh
    obtain ⟨d, hd, rd⟩ := r.getV (hv vs (same_sqT (e1.trans e2) h))
    obtain ⟨d', hd', rd'⟩ := r'.getV (hw ws (same_sqT (e1.trans e2) h'))
    exact ⟨_, upd Zc T _, zipD_get hd hd', NewR.tup (xs := [d, d']) e2 hT (by show 2 ≤ 16777216; decide) (.cons (rd.same e1) (.cons (rd'.same e1) .nil))⟩
theorem pfi_zip {elts : List Expr} {kk : Nat} {tpos : Pos} (hg : Gl X "zip") (hm : X.mg "zip" = none) (ha : PFA X L [a, b] fr) (hs : starEach [a, b] X.env = (false, eval a X.env) :: starEach [b] X.env := by rfl) (hpl : (backTo pos (starEach [b] X.env)).any (·.1) = false := by rfl) :
    PFI X L (.Tuple elts kk tpos) (.Call (.Name "zip" p) [a, b] [] pos) (iZipS fr) := PI_imp (RZ.pi_zipA hg hm ha hs hpl) fun σ H R ⟨Z, Y, s, Xf, Qf, r, k, xo, h, q⟩ => by
  refine ⟨Z, Y, s, Xf, _, r, k, xo, h, fun vs H1 Z1 rs s1 hz rx hn h1 => ?_⟩
  obtain ⟨Z2, ds, s2, hz2, rx2, h2⟩ := frzAll_ok (us := []) (ds := []) rx rfl h1
  have ra := rx2.rps
  split at h2
  · cases ra with
    | cons r1 r2 =>
      cases r2 with
      | cons r2 r3 =>
        cases r3
        cases r1 with
        | lst hq hl hr =>
          cases r2 with
          | lst hq' hl' hr' => exact ⟨_, _, _, _, rfl, .inl ⟨.inl (same_rd rx2.rel0.zh hq), .inl (same_rd rx2.rel0.zh hq'), q _ H1 Z2 s2 _ (hz.trans hz2) rx2.rel0 (walks_zip (.inl hq) hr (.inl hq') hr') h2⟩⟩
  · cases ra with
    | cons r1 r2 =>
      cases r2 with
      | cons r2 r3 =>
        cases r3
        cases r1 with
        | tup hq hl hr =>
          cases r2 with
          | tup hq' hl' hr' => exact ⟨_, _, _, _, rfl, .inr ⟨tupSq (rx2.rel0.zh _ _ hq), tupSq (rx2.rel0.zh _ _ hq'), q _ H1 Z2 s2 _ (hz.trans hz2) rx2.rel0 (walks_zipT (tupSq hq) hr (tupSq hq') hr') h2⟩⟩
  · exact h2.elim
theorem rg_all {i j : Int} : RpAll K Z (rgV i j) (rangeD i (j - i).toNat) := by
  unfold rgV rangeD
  generalize (j - i).toNat = n
  induction n with
  | zero => exact .nil
  | succ n ih =>
    rw [List.range_succ, List.map_append, List.map_append]
    exact ih.append (.cons (.int _) .nil)
theorem rg_len {i j : Int} (h : RgOk i j) : (rgV i j).length ≤ sizeLine := by
  rw [rgV_length]
  obtain ⟨_, _, _, _, h5⟩ := h
  show _ ≤ 16777216
  omega
theorem newT {v : List V} {ds : List D} {σ : St} {H : Hp} {Q : VK} {Z Y : Hp} {s : S} {Qf : R → S → Prop} (r : Rel K Z Y H σ s) (hl : v.length ≤ sizeLine) (ra : RpAll K Z v ds) (h : Qf (.d (.tuple ds)) s)
    (q : ∀ v H' Z' r s', Same Z Z' → RelX K Z' Y H' σ s' [v] [r] → Qf r s' → Q v H') : ∀ p, H p = none → Q (.ref p) (upd H p (.tup v)) := fun p hp => by
  have n : NewR K Z H _ _ (.ref p) (.d (.tuple ds)) := .tup r.zh hp hl ra
  exact q _ _ _ _ s n.hz (r.new n) h
theorem pf_tRg1 {p2 pos2 : Pos} (hc : X.calm = true) (hm : X.mg "tuple" = none) (hm2 : X.mg "range" = none) (ha : PF X L a fa) (hg : Gl X "tuple" := by rfl) (hg2 : Gl X "range" := by rfl) (hs : starEach [a] X.env = (false, eval a X.env) :: starEach [] X.env := by rfl)
    (na : starEach [.Call (.Name "range" p2) [a] [] pos2] X.env = (false, eval (.Call (.Name "range" p2) [a] [] pos2) X.env) :: starEach [] X.env := by rfl) : PF X L (.Call (.Name "tuple" p) [.Call (.Name "range" p2) [a] [] pos2] [] pos) (fRg1 mkT fa) :=
  PE_imp (pe_tupRg hc hg hm (prg_1 hg2 hm2 ha hs) na) fun σ H Q ⟨Z, Y, s, Xf, Qf, r, k, xo, h, q⟩ => by
  refine ⟨Z, Y, s, Xf, _, r, k, xo, h, fun v H1 Z1 r1 s1 hz rx h1 => ?_⟩
  split at h1
  · rename_i j
    exact ⟨j, rx.vi, h1.1, newT rx.rel0 (rg_len h1.1) rg_all (by rw [Int.sub_zero]; exact h1.2) fun v H' Z' r s' hz' => q v H' Z' r s' (hz.trans hz')⟩
  · exact h1.elim
section
variable {prog : Program} {w : World} {A : Around} {E : Value → Shared → Prop} {s : Shared}
theorem collect_tuple {l : Addr} {vs : List Value} {Q : List Value → Shared → Prop} (hl : s.heap.IsTuple l vs.toArray)
    (h : Q vs { s with heap := (s.heap.push (seqObj "list" #[] 0)).update s.heap.objs.size (Obj.mapSeq (· ++ vs.toArray)) }) (hsz : vs.length ≤ sizeLine := by size_fits) :
    wpAny (model prog w) A (collect (.ref l)) Q E s := by
  obtain ⟨o, ho, hc, n, hd⟩ := id hl
  unfold collect
  refine wpAny_bind (wpAny_runValue (codeAny_builtin entry_proto_collect' ?_))
  show wpAny _ _ (do again (.builtin "list.__iadd__" ⟨[← newList [], .ref l], []⟩)) _ _ s
  refine wpAny_bind (wpAny_newList (wpAny_pure ⟨Code.quiet_builtin _ (by decide +kernel), codeAny_builtin entry_list_iadd' ?_⟩))
  show wpAny _ _ (Builtin.List.listExtendWith (.ref s.heap.objs.size) (.ref l) (.ref s.heap.objs.size)) _ _ { s with heap := s.heap.push (seqObj "list" #[] 0) }
  unfold Builtin.List.listExtendWith
  have ho' : (s.heap.push (seqObj "list" #[] 0)).get? l = some o := Heap.get?_push_of_some _ ho
  refine wpAny_bind (wpAny_typeOf (T := "tuple") ⟨o, ho', hc⟩ ?_)
  have ht : (Value.type "tuple" == Value.type "tuple") = true := by rfl
  rw [if_pos (by rw [ht]; simp)]
  refine wpAny_bind (listItems_at ho' hd ?_)
  refine wpAny_bind (listItems_at (xs := #[]) (n := 0) (Heap.get?_push_size _ rfl) rfl ?_)
  rw [if_neg (by simp)]
  refine wpAny_bind (listUpdate_at (xs := #[]) (n := 0) (Heap.get?_push_size _ rfl) rfl ?_ (Nat.zero_le _) (by show (#[] ++ vs.toArray).size ≤ sizeLine + 1; simp only [Array.size_append, List.size_toArray, List.length_nil]; omega))
  refine wpAny_pure ?_
  show wpAny (model prog w) A (do
      let o ← load s.heap.objs.size
      match o.data with
      | .seq xs _ => pure xs.toList
      | _ => unsupported "internal:collect") Q E { s with heap := (s.heap.push (seqObj "list" #[] 0)).update s.heap.objs.size (Obj.mapSeq (· ++ vs.toArray)) }
  refine wpAny_bind (wpAny_load (get?_update_seq (Heap.get?_push_size _ rfl) _) ?_)
  show wpAny _ _ (pure ((#[] : Array Value) ++ vs.toArray).toList) Q E _
  rw [show ((#[] : Array Value) ++ vs.toArray).toList = vs by simp]
  exact wpAny_pure h
theorem sorted_intsTup {l : Addr} {vs : List Value} {ns : List Int} {Q : Value → Shared → Prop} (hl : s.heap.IsTuple l vs.toArray) (hI : IntsAre vs ns) (hL : vs.length ≤ sizeLine)
    (h : ∀ (out : Array Value) (ns' : List Int), IntsAre out.toList ns' → ns'.Perm ns → ns'.Pairwise (· ≤ ·) → Q (.ref (s.heap.objs.size + 1)) { s with heap := sortedAll s.heap vs out }) :
    wpAny (model prog w) A (call (.builtin "sorted") [.ref l]) Q E s := by
  refine Calls.call_function_entry kind_sorted plain_sorted entry_sorted (args_sorted1 _) ?_
  unfold Builtin.«sorted»
  refine wpAny_bind (m := checkCount "sorted" 1 1 _) (wpAny_pure ?_)
  refine wpAny_bind (collect_tuple hl ?_)
  refine wpAny_bind (wpAny_newList ?_)
  have hsz : ((s.heap.push (seqObj "list" #[] 0)).update s.heap.objs.size (Obj.mapSeq (· ++ vs.toArray))).objs.size = s.heap.objs.size + 1 := by
    rw [Heap.size_update, size_push']
  have hoL : (((s.heap.push (seqObj "list" #[] 0)).update s.heap.objs.size (Obj.mapSeq (· ++ vs.toArray))).push (seqObj "list" vs.toArray 0)).get? (s.heap.objs.size + 1) = some (seqObj "list" vs.toArray 0) := by
    rw [← hsz]; exact Heap.get?_push_size _ rfl
  show wpAny _ _ _ _ _ { s with heap := ((s.heap.push (seqObj "list" #[] 0)).update s.heap.objs.size (Obj.mapSeq (· ++ vs.toArray))).push (seqObj "list" vs.toArray 0) }
  rw [hsz]
  refine wpAny_bind (wpAny_holding (wpAny_call_entry slot_list_sort ⟨_, hoL, rfl⟩ entry_list_sort (list_sort_treeAny hoL hI hL fun out ns' a1 a2 a3 => ⟨_, rfl, ?_⟩) (args_list_sort _)))
  exact wpAny_pure ⟨_, rfl, h out ns' a1 a2 a3⟩
end
def rSortedT (K : PySem.W.Frag) : List V → Hp → VK → Prop := fun vs H Q => ∃ (a : Addr) (ns : List Int), vs = [V.ref a] ∧ SqT K H a (ns.map V.int) ∧
  ∀ (ns' : List Int) (p : Addr), ns'.Perm ns → ns'.Pairwise (· ≤ ·) → H p = none → Q (.ref p) (upd H p (.lst (ns'.map V.int)))
theorem cr_sortedT {X : Cx} : CallR X (.builtin "sorted") (rSortedT X.K) := by
  intro pins s σ H vs us Q I r h
  obtain ⟨a, ns, rfl, hs, q⟩ := h
  obtain ⟨its, rv, hl, hz⟩ := I.tuple hs
  rw [Vals.ref1 r]
  have hi := rv.ints
  have hz' : ns.length ≤ sizeLine := by rw [List.length_map] at hz; exact hz
  refine sorted_intsTup hl hi (by rw [hi.length]; exact hz') fun out ns' h1 h2 h3 => ?_
  obtain ⟨ep, he'⟩ := PyProof.Rows.sortedAll_at s.heap its out
  have hlen : (ns'.map V.int).length ≤ sizeLine := by rw [List.length_map, h2.length_eq]; exact hz'
  exact ⟨.ref _, upd H (s.heap.objs.size + 1) (.lst (ns'.map V.int)), I.laid (t' := s.toks) (fun _ _ => PyProof.Rows.sortedAll_old) (Nat.le_succ _) ⟨hlen, out.toList, ep, vals_of_ints h1, he'⟩, rfl, q ns' _ h2 h3 (I.hok.fresh (Nat.le_succ _))⟩
theorem fb_sortI : CallR X (.builtin "sorted") (rFN X.K bSortI) := by
  intro pins s σ H vs us Q I rv ⟨Z, ds, Qf, hz, rr, g, q⟩
  unfold bSortI at g
  split at g
  · split at g
    · rename_i eb
      obtain ⟨v, rfl, r1⟩ := rr.one
      obtain ⟨p, vs, rfl, h1, h2, h3⟩ := r1.list hz
      rw [intsOf_eq eb] at h3
      have h2' := h3.length
      rw [h3.ints] at h1 h2
      refine cr_sortedI pins s σ H _ us Q I rv ⟨p, _, rfl, .inl h1, fun ns' p' hp hs hn => ?_⟩
      exact q _ _ Z _ (.lst hz hn (by rw [List.length_map] at h2 ⊢; rw [hp.length_eq]; exact h2) (RpAll.of_ints ns')) (g ns' hp hs)
    · exact g.elim
  · exact g.elim
theorem pairOf_eq {d : D} {p : Int × Int} (h : pairOf d = some p) : d = pairD p := by
  unfold pairOf at h
  split at h
  · cases h; rfl
  · cases h
theorem pairsOf_eq : ∀ {xs : List D} {ps : List (Int × Int)}, pairsOf xs = some ps → xs = ps.map pairD
  | [], ps, h => by cases h; rfl
  | x :: xs, ps, h => by
    have h : (match pairOf x, pairsOf xs with | some p, some ps => some (p :: ps) | _, _ => none) = some ps := h
    cases e : pairOf x with
    | none => rw [e] at h; cases h
    | some p =>
      cases e2 : pairsOf xs with
      | none => rw [e, e2] at h; cases h
      | some qs =>
        rw [e, e2] at h
        cases h
        rw [pairOf_eq e, pairsOf_eq e2]; rfl
theorem rp_pair {v : V} {p : Int × Int} (r : Rp K Z v (pairD p)) : ∃ t, v = .ref t ∧ SqT K Z t [.int p.1, .int p.2] := by
  unfold pairD at r
  cases r with
  | tup h z a =>
    cases a with
    | cons a1 a2 =>
      cases a2 with
      | cons a2 a3 =>
        cases a3; cases a1; cases a2
        exact ⟨_, rfl, tupSq h⟩
open Classical in
/-- which pair stands at an address of the frozen part -/
noncomputable def keyZ (K : PySem.W.Frag) (Z : Hp) (v : V) : Int × Int := if h : ∃ p, Rp K Z v (pairD p) then h.choose else (0, 0)
theorem sorted_pairs {pins : List (Addr × Obj)} {s : Shared} {σ : St} {H : Hp} {q : Addr} {vs : List V} {Q : VK} (k : V → Int × Int) (I : Inv X pins σ H s) (hs : SqL X.K H q vs) (hx : ∀ x ∈ vs, ∃ t, x = V.ref t ∧ SqT X.K H t [.int (k x).1, .int (k x).2])
    (g : ∀ ys p, SrtO.Srtd (ltP k) ys → SrtO.Stb (ltP k) ys vs → H p = none → Q (.ref p) (upd H p (.lst ys))) : wpAny (model X.prog X.w) X.A (call (.builtin "sorted") [.ref q]) (EP X pins σ Q) X.xe s := by
  obtain ⟨its, rv, hl, hz⟩ := I.list hs
  obtain ⟨e1, e2⟩ := refs_back rv fun x m => by
    obtain ⟨t, e, _⟩ := hx x m
    exact ⟨t, e⟩
  have len := rv.length
  refine SrtO.sorted_pairsO (k := fun u => k (backV u)) hl.isList (by rw [← len]; exact hz) ?_ ?_
  · intro v hv
    obtain ⟨t, rfl⟩ := e2 v hv
    have hm : V.ref t ∈ vs := by
      rw [e1]
      exact List.mem_map.mpr ⟨_, hv, rfl⟩
    obtain ⟨t', e, ht⟩ := hx _ hm
    cases e
    obtain ⟨us, ru, ⟨o, ho, hc, n, hd⟩, _⟩ := I.tuple ht
    obtain ⟨u1, u2, rfl, ri, rj⟩ := vals2 ru
    obtain ⟨t1, rfl⟩ := ri
    obtain ⟨t2, rfl⟩ := rj
    exact ⟨t, o, t1, t2, n, rfl, ho, hc, hd⟩
  · intro h' d out h1 h2 kp hd ⟨n, hn⟩
    have back : ∀ u ∈ out, ∃ a, u = Value.ref a := fun u hu => e2 u (h2.perm.mem_iff.mp hu)
    have hb : SrtO.Stb (ltP k) (out.map backV) vs := by
      rw [e1]
      exact SrtO.Stb.map (ltP_swo k) backV h2
    refine ⟨.ref d, upd H d (.lst (out.map backV)), I.laid (t' := s.toks) kp hd ⟨?_, out, n, vals_back back, hn⟩, rfl, g _ d (SrtO.srtd_map h1) hb (I.hok.fresh hd)⟩
    rw [hb.len]
    exact hz
theorem rp_pair_key {v : V} {p : Int × Int} (one : ∀ (t : Addr) (xs ys : List V), SqT K Z t xs → SqT K Z t ys → xs = ys) (r : Rp K Z v (pairD p)) : keyZ K Z v = p := by
  classical
  have h : ∃ p, Rp K Z v (pairD p) := ⟨p, r⟩
  unfold keyZ
  rw [dif_pos h]
  have hc := h.choose_spec
  generalize h.choose = p' at hc
  obtain ⟨t, rfl, h1⟩ := rp_pair r
  obtain ⟨t', e, h2⟩ := rp_pair hc
  cases e
  have : ([.int p.1, .int p.2] : List V) = [.int p'.1, .int p'.2] := one t _ _ h1 h2
  injection this with a1 a2
  injection a2 with a2 _
  injection a1 with a1
  injection a2 with a2
  exact Prod.ext a1.symm a2.symm
theorem fb_sortP : CallR X (.builtin "sorted") (rFN X.K bSortP) := by
  intro pins s σ H vs us Q I rv ⟨Z, ds, Qf, hz, rr, g, q⟩
  unfold bSortP at g
  split at g
  · split at g
    · rename_i eb
      obtain ⟨v, rfl, r1⟩ := rr.one
      obtain ⟨p, vs, rfl, h1, h2, h3⟩ := r1.list hz
      rw [pairsOf_eq eb] at h3
      obtain ⟨u, rfl, ru⟩ := vals1 rv
      cases ru
      have each : ∀ {vs : List V} {ps : List (Int × Int)}, RpAll X.K Z vs (ps.map pairD) → (∀ x ∈ vs, ∃ t, x = V.ref t ∧ SqT X.K H t [.int (keyZ X.K Z x).1, .int (keyZ X.K Z x).2]) ∧ vs.map (keyZ X.K Z) = ps ∧ ∀ x ∈ vs, Rp X.K Z x (pairD (keyZ X.K Z x)) := by
        intro vs
        induction vs with
        | nil =>
          intro ps ra
          cases ps with
          | nil => exact ⟨fun x hx => (nomatch hx), rfl, fun x hx => (nomatch hx)⟩
          | cons p ps => cases ra
        | cons v vs ih =>
          intro ps ra
          cases ps with
          | nil => cases ra
          | cons p ps =>
            cases ra with
            | cons a1 a2 =>
              obtain ⟨i1, i2, i3⟩ := ih a2
              have ek := rp_pair_key (fun t xs ys a b => I.tuple_inj (same_sqT hz a) (same_sqT hz b)) a1
              obtain ⟨t, et, ht⟩ := rp_pair a1
              refine ⟨fun x hx => ?_, by rw [List.map_cons, ek, i2], fun x hx => ?_⟩
              · rcases List.mem_cons.mp hx with rfl | hx
                · exact ⟨t, et, by rw [ek]; exact same_sqT hz ht⟩
                · exact i1 x hx
              · rcases List.mem_cons.mp hx with rfl | hx
                · rw [ek]; exact a1
                · exact i3 x hx
      obtain ⟨i1, i2, i3⟩ := each h3
      refine sorted_pairs (keyZ X.K Z) I (.inl h1) i1 fun ys p' hs hb hn => ?_
      have hp := hb.perm
      have ry : RpAll X.K Z ys ((ys.map (keyZ X.K Z)).map pairD) := by
        have all : ∀ x ∈ ys, Rp X.K Z x (pairD (keyZ X.K Z x)) := fun x hx => i3 x (hp.mem_iff.mp hx)
        clear hs hb hn hp
        induction ys with
        | nil => exact .nil
        | cons y ys ih => exact .cons (all y List.mem_cons_self) (ih fun x hx => all x (List.mem_cons_of_mem _ hx))
      refine q _ _ Z _ (.lst hz hn (by rw [hp.length_eq]; exact h2) ry) (g _ (by rw [← i2]; exact hp.map _) ?_)
      have hs' : ys.Pairwise fun x y => ltP (keyZ X.K Z) y x = false := hs
      rw [List.pairwise_map]
      refine hs'.imp fun {x y} h => ?_
      have h := SrtO.lexB_no.mp h
      unfold ltPr
      simp only [Bool.or_eq_false_iff, Bool.and_eq_false_iff, decide_eq_false_iff_not, beq_eq_false_iff_ne, ne_eq]
      omega
    · exact g.elim
  · exact g.elim
end
end Hs
namespace Hs
open PySem PySem.Spec PyProof.Rows L2
/-- the order of tuples of ints -/
def lexL : List Int → List Int → Bool
  | [], [] => false
  | [], _ :: _ => true
  | _ :: _, [] => false
  | a :: as, b :: bs => if a = b then lexL as bs else decide (a < b)
theorem lexL_cons {a b : Int} {as bs : List Int} : lexL (a :: as) (b :: bs) = if a = b then lexL as bs else decide (a < b) := rfl
theorem lexL_asym : ∀ {as bs : List Int}, lexL as bs = true → lexL bs as = false
  | [], [], h => by cases h
  | [], _ :: _, _ => rfl
  | _ :: _, [], h => by cases h
  | a :: as, b :: bs, h => by
    rw [lexL_cons] at h ⊢
    by_cases e : a = b
    · rw [if_pos e] at h
      rw [if_pos e.symm]
      exact lexL_asym h
    · rw [if_neg e] at h
      rw [if_neg (Ne.symm e)]
      have := of_decide_eq_true h
      exact decide_eq_false (by omega)
theorem lexL_tr : ∀ {as bs cs : List Int}, lexL as bs = false → lexL bs cs = false → lexL as cs = false
  | [], [], _, _, h => h
  | [], _ :: _, _, h, _ => by cases h
  | _ :: _, [], [], _, _ => rfl
  | _ :: _, [], _ :: _, _, h => by cases h
  | _ :: _, _ :: _, [], _, _ => rfl
  | a :: as, b :: bs, c :: cs, h1, h2 => by
    rw [lexL_cons] at h1 h2 ⊢
    by_cases e1 : a = b
    · rw [if_pos e1] at h1
      subst e1
      by_cases e2 : a = c
      · rw [if_pos e2] at h2 ⊢
        exact lexL_tr h1 h2
      · rw [if_neg e2] at h2 ⊢
        exact h2
    · rw [if_neg e1] at h1
      have l1 := of_decide_eq_false h1
      by_cases e2 : b = c
      · subst e2
        rw [if_neg e1]
        exact h1
      · rw [if_neg e2] at h2
        have l2 := of_decide_eq_false h2
        rw [if_neg (by omega)]
        exact decide_eq_false (by omega)
theorem lexL_eq : ∀ {as bs : List Int}, lexL as bs = false → lexL bs as = false → as = bs
  | [], [], _, _ => rfl
  | [], _ :: _, h, _ => by cases h
  | _ :: _, [], _, h => by cases h
  | a :: as, b :: bs, h1, h2 => by
    rw [lexL_cons] at h1 h2
    by_cases e : a = b
    · rw [if_pos e] at h1
      rw [if_pos e.symm] at h2
      rw [e, lexL_eq h1 h2]
    · rw [if_neg e] at h1
      rw [if_neg (Ne.symm e)] at h2
      have := of_decide_eq_false h1
      have := of_decide_eq_false h2
      omega
theorem lexL_swo {α : Type} (k : α → List Int) : SrtO.Swo fun v u => lexL (k v) (k u) := ⟨fun x y h => lexL_asym h, fun x y z h1 h2 => lexL_tr h2 h1⟩
section
variable {prog : Program} {w : World} {A : Around} {E : Value → Shared → Prop} {s : Shared}
def IsTupI (h : Heap) (v : Value) (ns : List Int) : Prop := ∃ a o us n, v = .ref a ∧ h.get? a = some o ∧ o.cls = .type "tuple" ∧ o.data = .seq (List.toArray us) n ∧ IntsAre us ns
theorem IsTupI.keeps {h h' : Heap} {v : Value} {ns : List Int} (p : IsTupI h v ns) (k : ∀ b o, h.get? b = some o → o.cls = .type "tuple" → h'.get? b = some o) : IsTupI h' v ns := by
  obtain ⟨a, o, us, n, e, ho, hc, hd, hi⟩ := p
  exact ⟨a, o, us, n, e, k _ _ ho hc, hc, hd, hi⟩
theorem kat_tups {fin : Bool} : ∀ {xs ys : List Value} {ns ms : List Int} (i : Nat), IntsAre xs ns → IntsAre ys ms → fin = decide (ns.length < ms.length) →
    PySem.W.KatLex prog w A true fin (fun r s' => s' = s ∧ r = lexL ns ms) (xs.zip ys) i s
  | _, _, _, _, _, .nil, .nil, e => PySem.W.kat_nil ⟨rfl, e⟩
  | _, _, _, _, _, .nil, .cons _ _ _, e => PySem.W.kat_nil ⟨rfl, by rw [e]; exact decide_eq_true (by simp)⟩
  | _, _, _, _, _, .cons _ _ _, .nil, e => PySem.W.kat_nil ⟨rfl, by rw [e]; exact decide_eq_false (by simp)⟩
  | _, _, _, _, i, .cons x t hx, .cons y u hy, e => by
    refine PySem.W.kat_cons (SeqAt.EqAt.int_int x t y u prog w _ _ ?_)
    rw [lexL_cons]
    refine PySem.W.kat_go (fun e1 => ?_) (fun e1 => ?_)
    · have ex : x = y := by simpa using e1
      rw [if_pos ex]
      exact PySem.W.kat_yes (kat_tups (i + 1) hx hy (by rw [e]; simp))
    · have ex : ¬ x = y := by simpa using e1
      rw [if_neg ex]
      exact PySem.W.kat_no (TS.oneLt_ints _ ⟨rfl, rfl⟩)
theorem tup_cmp {vs : List Value} {k : Value → List Int} (hp : ∀ v ∈ vs, IsTupI s.heap v (k v)) : SrtO.Cmp prog w A s (tuples' true) (fun p => p.1 ∈ vs) (SrtO.lt2 fun v u => lexL (k v) (k u)) := by
  intro p q hm hm'
  obtain ⟨a, o, us, n, e, ho, hc, hd, hi⟩ := hp _ hm
  obtain ⟨a', o', us', n', e', ho', hc', hd', hi'⟩ := hp _ hm'
  show wpAny (model prog w) A (keyLt' (tuples' true) p.1 q.1) (fun r s' => s' = s ∧ r = lexL (k p.1) (k q.1)) (fun _ _ => False) s
  generalize k p.1 = ns at hi ⊢
  generalize k q.1 = ms at hi' ⊢
  rw [e, e']
  refine PySem.W.kat_lt ho hd ho' hd' ?_
  exact kat_tups 0 hi hi' (by rw [List.size_toArray, List.size_toArray, hi.length, hi'.length])
theorem firstsT {h : Heap} : ∀ {vs : List Value} {k : Value → List Int}, (∀ v ∈ vs, IsTupI h v (k v) ∧ k v ≠ []) → ∃ fs : List Value, PySem.W.KatTups h vs fs ∧ fs.length = vs.length ∧ ∀ f ∈ fs, ∃ x t, f = Value.int x t
  | [], _, _ => ⟨[], PySem.W.KatTups.nil, rfl, fun _ hm => by simp at hm⟩
  | v :: vs, k, hp => by
    obtain ⟨fs, h1, h2, h3⟩ := firstsT (vs := vs) fun v' hm => hp v' (List.mem_cons_of_mem _ hm)
    obtain ⟨⟨a, o, us, n, e, ho, hc, hd, hi⟩, hne⟩ := hp v (List.mem_cons_self ..)
    generalize k v = ns at hi hne
    subst e
    cases hi with
    | nil => exact (hne rfl).elim
    | cons x t hi =>
      refine ⟨.int x t :: fs, PySem.W.KatTups.cons ho hc hd rfl h1, by rw [List.length_cons, List.length_cons, h2], fun f hm => ?_⟩
      rcases List.mem_cons.mp hm with rfl | hm
      · exact ⟨x, t, rfl⟩
      · exact h3 f hm
theorem tups_sortableO {a : Addr} {vs : List Value} {k : Value → List Int} (h0 : 0 < vs.length) (hp : ∀ v ∈ vs, IsTupI s.heap v (k v) ∧ k v ≠ []) (ha : ∀ o, s.heap.get? a = some o → o.cls ≠ .type "tuple") : SrtO.SortableO prog w A s a vs fun v u => lexL (k v) (k u) := by
  intro h' keep
  have hp' : ∀ v ∈ vs, IsTupI h' v (k v) ∧ k v ≠ [] := fun v hm => ⟨(hp v hm).1.keeps fun b o e c => keep b o (fun z => by subst z; exact ha o e c) e, (hp v hm).2⟩
  obtain ⟨fs, h1, h2, h3⟩ := firstsT hp'
  refine ⟨tuples' true, fun Q E hq => ?_, tup_cmp fun v hv => (hp' v hv).1⟩
  refine PySem.W.kat_kind (T := .type "int") h1 (by omega) (fun f hm => ?_) (by rfl) ?_
  · obtain ⟨x, t, rfl⟩ := h3 f hm
    exact PySem.W.Looks.now
  · have e : (Value.type "int" != Value.type "tuple") = true := by first | decide +kernel | rfl | decide
    rw [e]
    exact hq
theorem sorted_tupsO {l : Addr} {vs : List Value} {k : Value → List Int} {Q : Value → Shared → Prop} (hl : s.heap.IsList l vs.toArray) (hz : vs.length ≤ sizeLine) (hp : ∀ v ∈ vs, IsTupI s.heap v (k v)) (hne : 2 ≤ vs.length → ∀ v ∈ vs, k v ≠ [])
    (h : ∀ (h' : Heap) (d : Addr) (out : List Value), SrtO.Srtd (fun v u => lexL (k v) (k u)) out → SrtO.Stb (fun v u => lexL (k v) (k u)) out vs → (∀ b o, s.heap.get? b = some o → h'.get? b = some o) → s.heap.objs.size ≤ d → (∃ n, h'.get? d = some (seqObj "list" out.toArray n)) → Q (.ref d) { s with heap := h' }) :
    wpAny (model prog w) A (call (.builtin "sorted") [.ref l]) Q E s := by
  refine SrtO.sorted_ord (lexL_swo k) hl hz (fun h2 h₁ a ha kk => ?_) fun out hs hb => ?_
  · refine tups_sortableO (s := { s with heap := h₁ }) (by omega) (fun v hm => ⟨(hp v hm).keeps fun b o e _ => (kk b o e).2, hne h2 v hm⟩) fun o e => ?_
    have e' : some o = some (seqObj "list" vs.toArray 0) := e.symm.trans ha
    cases e'
    intro c
    exact absurd (Value.type.inj c) (by decide)
  · exact h _ _ out hs hb (fun b o e => sortedAll_old e) (Nat.le_succ _) (sortedAll_at s.heap vs out.toArray)
end
section
variable {X : Cx}
theorem sorted_tups {pins : List (Addr × Obj)} {s : Shared} {σ : St} {H : Hp} {q : Addr} {vs : List V} {Q : VK} (k : V → List Int) (I : Inv X pins σ H s) (hs : SqL X.K H q vs) (hx : ∀ x ∈ vs, ∃ t, x = V.ref t ∧ SqT X.K H t ((k x).map V.int)) (hne : 2 ≤ vs.length → ∀ x ∈ vs, k x ≠ [])
    (g : ∀ ys p, SrtO.Srtd (fun x y => lexL (k x) (k y)) ys → SrtO.Stb (fun x y => lexL (k x) (k y)) ys vs → H p = none → Q (.ref p) (upd H p (.lst ys))) : wpAny (model X.prog X.w) X.A (call (.builtin "sorted") [.ref q]) (EP X pins σ Q) X.xe s := by
  obtain ⟨its, rv, hl, hz⟩ := I.list hs
  obtain ⟨e1, e2⟩ := refs_back rv fun x m => by
    obtain ⟨t, e, _⟩ := hx x m
    exact ⟨t, e⟩
  have len := rv.length
  have mem : ∀ v ∈ its, backV v ∈ vs := fun v hv => by
    rw [e1]
    exact List.mem_map.mpr ⟨_, hv, rfl⟩
  refine sorted_tupsO (k := fun u => k (backV u)) hl.isList (by rw [← len]; exact hz) ?_ (fun h2 v hv => hne (by rw [len]; exact h2) _ (mem v hv)) ?_
  · intro v hv
    have hm := mem v hv
    obtain ⟨t, rfl⟩ := e2 v hv
    obtain ⟨t', e, ht⟩ := hx _ hm
    have et : t' = t := by
      have : V.ref t = V.ref t' := e
      cases this; rfl
    subst et
    obtain ⟨us, ru, ⟨o, ho, hc, n, hd⟩, _⟩ := I.tuple ht
    exact ⟨t', o, us, n, rfl, ho, hc, hd, ints_of_vals ru⟩
  · intro h' d out h1 h2 kp hd ⟨n, hn⟩
    have back : ∀ u ∈ out, ∃ a, u = Value.ref a := fun u hu => e2 u (h2.perm.mem_iff.mp hu)
    have hb : SrtO.Stb (fun x y => lexL (k x) (k y)) (out.map backV) vs := by
      rw [e1]
      exact SrtO.Stb.map (lexL_swo k) backV h2
    refine ⟨.ref d, upd H d (.lst (out.map backV)), I.laid (t' := s.toks) kp hd ⟨?_, out, n, vals_back back, hn⟩, rfl, g _ d (SrtO.srtd_map h1) hb (I.hok.fresh hd)⟩
    rw [hb.len]
    exact hz
/-- items as tuples of ints -/
def tupI (ns : List Int) : D := .tuple (ns.map .int)
def tupOf : D → Option (List Int)
  | .tuple xs => intsOf xs
  | _ => none
def tupsOf : List D → Option (List (List Int))
  | [] => some []
  | x :: xs => match tupOf x, tupsOf xs with
    | some n, some ns => some (n :: ns)
    | _, _ => none
def bSortT : VN := fun ds Q => match ds with
  | [.list xs] => match tupsOf xs with
    | some nss => (2 ≤ nss.length → ∀ ns ∈ nss, ns ≠ []) ∧ ∀ mss : List (List Int), mss.Perm nss → mss.Pairwise (fun a b => lexL b a = false) → Q (.own (.l (mss.map tupI)))
    | none => False
  | _ => False
theorem tupOf_eq {d : D} {ns : List Int} (h : tupOf d = some ns) : d = tupI ns := by
  cases d with
  | tuple xs => rw [intsOf_eq (show intsOf xs = some ns from h)]; rfl
  | _ => cases h
theorem tupsOf_eq : ∀ {xs : List D} {nss : List (List Int)}, tupsOf xs = some nss → xs = nss.map tupI
  | [], nss, h => by cases h; rfl
  | x :: xs, nss, h => by
    have h : (match tupOf x, tupsOf xs with | some n, some ns => some (n :: ns) | _, _ => none) = some nss := h
    cases e : tupOf x with
    | none => rw [e] at h; cases h
    | some p =>
      cases e2 : tupsOf xs with
      | none => rw [e, e2] at h; cases h
      | some qs =>
        rw [e, e2] at h
        cases h
        rw [tupOf_eq e, tupsOf_eq e2]; rfl
section
variable {prog : Program} {w : World} {A : Around} {E : Value → Shared → Prop} {s : Shared}
open SrtO in
theorem sorted_ordT {l : Addr} {vs : List Value} {ltv : Value → Value → Bool} {Q : Value → Shared → Prop} (O : Swo ltv) (hl : s.heap.IsTuple l vs.toArray) (hz : vs.length ≤ sizeLine)
    (hS : 2 ≤ vs.length → ∀ (h₁ : Heap) (a : Addr), h₁.get? a = some (seqObj "list" vs.toArray 0) → (∀ b o, s.heap.get? b = some o → b ≠ a ∧ h₁.get? b = some o) → SortableO prog w A.in1.in1 { s with heap := h₁ } a vs ltv)
    (h : ∀ out : List Value, Srtd ltv out → Stb ltv out vs → Q (.ref (s.heap.objs.size + 1)) { s with heap := sortedAll s.heap vs out.toArray }) :
    wpAny (model prog w) A (call (.builtin "sorted") [.ref l]) Q E s := by
  refine Calls.call_function_entry kind_sorted plain_sorted entry_sorted (args_sorted1 _) ?_
  unfold Builtin.«sorted»
  refine wpAny_bind (m := checkCount "sorted" 1 1 _) (wpAny_pure ?_)
  refine wpAny_bind (collect_tuple hl ?_ hz)
  refine wpAny_bind (wpAny_newList ?_ hz)
  have hsz : ((s.heap.push (seqObj "list" #[] 0)).update s.heap.objs.size (Obj.mapSeq (· ++ vs.toArray))).objs.size = s.heap.objs.size + 1 := by
    rw [Heap.size_update, size_push']
  have hoL : (((s.heap.push (seqObj "list" #[] 0)).update s.heap.objs.size (Obj.mapSeq (· ++ vs.toArray))).push (seqObj "list" vs.toArray 0)).get? (s.heap.objs.size + 1) = some (seqObj "list" vs.toArray 0) := by
    rw [← hsz]; exact Heap.get?_push_size _ rfl
  have keep : ∀ b o, s.heap.get? b = some o → b ≠ s.heap.objs.size + 1 ∧ (((s.heap.push (seqObj "list" #[] 0)).update s.heap.objs.size (Obj.mapSeq (· ++ vs.toArray))).push (seqObj "list" vs.toArray 0)).get? b = some o := fun b o q => by
    have hlt : b < s.heap.objs.size := Heap.lt_size q
    refine ⟨Nat.ne_of_lt (Nat.lt_succ_of_lt hlt), Heap.get?_push_of_some _ ?_⟩
    rw [Heap.get?_update_ne _ _ _ _ (Nat.ne_of_lt hlt)]
    exact Heap.get?_push_of_some _ q
  show wpAny _ _ _ _ _ { s with heap := ((s.heap.push (seqObj "list" #[] 0)).update s.heap.objs.size (Obj.mapSeq (· ++ vs.toArray))).push (seqObj "list" vs.toArray 0) }
  rw [hsz]
  refine wpAny_bind (wpAny_holding (wpAny_call_entry slot_list_sort ⟨_, hoL, rfl⟩ entry_list_sort (list_sort_ord O hoL hz (fun h2 => hS h2 _ _ hoL keep) fun out hs hb => ⟨_, rfl, ?_⟩) (args_list_sort _)))
  exact wpAny_pure ⟨_, rfl, h out hs hb⟩
open SrtO in
theorem sorted_pairsOT {l : Addr} {vs : List Value} {k : Value → Int × Int} {Q : Value → Shared → Prop} (hl : s.heap.IsTuple l vs.toArray) (hz : vs.length ≤ sizeLine) (hp : ∀ v ∈ vs, Srt.IsPair s.heap v (k v).1 (k v).2)
    (h : ∀ (h' : Heap) (d : Addr) (out : List Value), Srtd (fun v u => lexB (k v) (k u)) out → Stb (fun v u => lexB (k v) (k u)) out vs → (∀ b o, s.heap.get? b = some o → h'.get? b = some o) → s.heap.objs.size ≤ d → (∃ n, h'.get? d = some (seqObj "list" out.toArray n)) → Q (.ref d) { s with heap := h' }) :
    wpAny (model prog w) A (call (.builtin "sorted") [.ref l]) Q E s := by
  refine sorted_ordT (swo_lex k) hl hz (fun h2 h₁ a ha kk => ?_) fun out hs hb => ?_
  · refine pairs_sortableO (s := { s with heap := h₁ }) (by omega) (fun v hm => (hp v hm).keeps fun b o e _ => (kk b o e).2) fun o e => ?_
    have e' : some o = some (seqObj "list" vs.toArray 0) := e.symm.trans ha
    cases e'
    intro c
    exact absurd (Value.type.inj c) (by decide)
  · exact h _ _ out hs hb (fun b o e => sortedAll_old e) (Nat.le_succ _) (sortedAll_at s.heap vs out.toArray)
end
def bSortPT : VN := fun ds Q => match ds with
  | [.tuple xs] => match pairsOf xs with
    | some ps => ∀ qs : List (Int × Int), qs.Perm ps → qs.Pairwise (fun p q => ltPr q p = false) → Q (.own (.l (qs.map pairD)))
    | none => False
  | _ => False
section
variable {K : PySem.W.Frag} {Z : Hp} {X : Cx}
theorem sorted_pairsT {pins : List (Addr × Obj)} {s : Shared} {σ : St} {H : Hp} {q : Addr} {vs : List V} {Q : VK} (k : V → Int × Int) (I : Inv X pins σ H s) (hs : SqT X.K H q vs) (hx : ∀ x ∈ vs, ∃ t, x = V.ref t ∧ SqT X.K H t [.int (k x).1, .int (k x).2])
    (g : ∀ ys p, SrtO.Srtd (ltP k) ys → SrtO.Stb (ltP k) ys vs → H p = none → Q (.ref p) (upd H p (.lst ys))) : wpAny (model X.prog X.w) X.A (call (.builtin "sorted") [.ref q]) (EP X pins σ Q) X.xe s := by
  obtain ⟨its, rv, hl, hz⟩ := I.tuple hs
  obtain ⟨e1, e2⟩ := refs_back rv fun x m => by
    obtain ⟨t, e, _⟩ := hx x m
    exact ⟨t, e⟩
  have len := rv.length
  refine sorted_pairsOT (k := fun u => k (backV u)) hl (by rw [← len]; exact hz) ?_ ?_
  · intro v hv
    obtain ⟨t, rfl⟩ := e2 v hv
    have hm : V.ref t ∈ vs := by
      rw [e1]
      exact List.mem_map.mpr ⟨_, hv, rfl⟩
    obtain ⟨t', e, ht⟩ := hx _ hm
    cases e
    obtain ⟨us, ru, ⟨o, ho, hc, n, hd⟩, _⟩ := I.tuple ht
    obtain ⟨u1, u2, rfl, ri, rj⟩ := vals2 ru
    obtain ⟨t1, rfl⟩ := ri
    obtain ⟨t2, rfl⟩ := rj
    exact ⟨t, o, t1, t2, n, rfl, ho, hc, hd⟩
  · intro h' d out h1 h2 kp hd ⟨n, hn⟩
    have back : ∀ u ∈ out, ∃ a, u = Value.ref a := fun u hu => e2 u (h2.perm.mem_iff.mp hu)
    have hb : SrtO.Stb (ltP k) (out.map backV) vs := by
      rw [e1]
      exact SrtO.Stb.map (ltP_swo k) backV h2
    refine ⟨.ref d, upd H d (.lst (out.map backV)), I.laid (t' := s.toks) kp hd ⟨?_, out, n, vals_back back, hn⟩, rfl, g _ d (SrtO.srtd_map h1) hb (I.hok.fresh hd)⟩
    rw [hb.len]
    exact hz
theorem fb_sortPT : CallR X (.builtin "sorted") (rFN X.K bSortPT) := by
  intro pins s σ H vs us Q I rv ⟨Z, ds, Qf, hz, rr, g, q⟩
  unfold bSortPT at g
  split at g
  · split at g
    · rename_i eb
      obtain ⟨v, rfl, r1⟩ := rr.one
      obtain ⟨p, vs, rfl, h1, h2, h3⟩ := r1.tuple hz
      rw [pairsOf_eq eb] at h3
      obtain ⟨u, rfl, ru⟩ := vals1 rv
      cases ru
      have each : ∀ {vs : List V} {ps : List (Int × Int)}, RpAll X.K Z vs (ps.map pairD) → (∀ x ∈ vs, ∃ t, x = V.ref t ∧ SqT X.K H t [.int (keyZ X.K Z x).1, .int (keyZ X.K Z x).2]) ∧ vs.map (keyZ X.K Z) = ps ∧ ∀ x ∈ vs, Rp X.K Z x (pairD (keyZ X.K Z x)) := by
        intro vs
        induction vs with
        | nil =>
          intro ps ra
          cases ps with
          | nil => exact ⟨fun x hx => (nomatch hx), rfl, fun x hx => (nomatch hx)⟩
          | cons p ps => cases ra
        | cons v vs ih =>
          intro ps ra
          cases ps with
          | nil => cases ra
          | cons p ps =>
            cases ra with
            | cons a1 a2 =>
              obtain ⟨i1, i2, i3⟩ := ih a2
              have ek := rp_pair_key (fun t xs ys a b => I.tuple_inj (same_sqT hz a) (same_sqT hz b)) a1
              obtain ⟨t, et, ht⟩ := rp_pair a1
              refine ⟨fun x hx => ?_, by rw [List.map_cons, ek, i2], fun x hx => ?_⟩
              · rcases List.mem_cons.mp hx with rfl | hx
                · exact ⟨t, et, by rw [ek]; exact same_sqT hz ht⟩
                · exact i1 x hx
              · rcases List.mem_cons.mp hx with rfl | hx
                · rw [ek]; exact a1
                · exact i3 x hx
      obtain ⟨i1, i2, i3⟩ := each h3
      refine sorted_pairsT (keyZ X.K Z) I h1 i1 fun ys p' hs hb hn => ?_
      have hp := hb.perm
      have ry : RpAll X.K Z ys ((ys.map (keyZ X.K Z)).map pairD) := by
        have all : ∀ x ∈ ys, Rp X.K Z x (pairD (keyZ X.K Z x)) := fun x hx => i3 x (hp.mem_iff.mp hx)
        clear hs hb hn hp
        induction ys with
        | nil => exact .nil
        | cons y ys ih => exact .cons (all y List.mem_cons_self) (ih fun x hx => all x (List.mem_cons_of_mem _ hx))
      refine q _ _ Z _ (.lst hz hn (by rw [hp.length_eq]; exact h2) ry) (g _ (by rw [← i2]; exact hp.map _) ?_)
      have hs' : ys.Pairwise fun x y => ltP (keyZ X.K Z) y x = false := hs
      rw [List.pairwise_map]
      refine hs'.imp fun {x y} h => ?_
      have h := SrtO.lexB_no.mp h
      unfold ltPr
      simp only [Bool.or_eq_false_iff, Bool.and_eq_false_iff, decide_eq_false_iff_not, beq_eq_false_iff_ne, ne_eq]
      omega
    · exact g.elim
  · exact g.elim
end
section
variable {K : PySem.W.Frag} {Z : Hp}
theorem rp_tupI {v : V} {ns : List Int} (r : Rp K Z v (tupI ns)) : ∃ t, v = .ref t ∧ SqT K Z t (ns.map V.int) := by
  unfold tupI at r
  cases r with
  | tup h z a =>
    rw [a.ints] at h
    exact ⟨_, rfl, tupSq h⟩
open Classical in
noncomputable def keyT (K : PySem.W.Frag) (Z : Hp) (v : V) : List Int := if h : ∃ ns, Rp K Z v (tupI ns) then h.choose else []
theorem map_int_inj : ∀ {ns ms : List Int}, ns.map V.int = ms.map V.int → ns = ms
  | [], [], _ => rfl
  | [], _ :: _, h => by cases h
  | _ :: _, [], h => by cases h
  | n :: ns, m :: ms, h => by
    rw [List.map_cons, List.map_cons] at h
    injection h with h1 h2
    injection h1 with h1
    rw [h1, map_int_inj h2]
theorem rp_tupI_key {v : V} {ns : List Int} (one : ∀ (t : Addr) (xs ys : List V), SqT K Z t xs → SqT K Z t ys → xs = ys) (r : Rp K Z v (tupI ns)) : keyT K Z v = ns := by
  classical
  have h : ∃ p, Rp K Z v (tupI p) := ⟨ns, r⟩
  unfold keyT
  rw [dif_pos h]
  have hc := h.choose_spec
  generalize h.choose = p' at hc
  obtain ⟨t, rfl, h1⟩ := rp_tupI r
  obtain ⟨t', e, h2⟩ := rp_tupI hc
  cases e
  exact map_int_inj (one t _ _ h2 h1)
end
theorem fb_sortT : CallR X (.builtin "sorted") (rFN X.K bSortT) := by
  intro pins s σ H vs us Q I rv ⟨Z, ds, Qf, hz, rr, g, q⟩
  unfold bSortT at g
  split at g
  · split at g
    · rename_i eb
      obtain ⟨v, rfl, r1⟩ := rr.one
      obtain ⟨p, vs, rfl, h1, h2, h3⟩ := r1.list hz
      rw [tupsOf_eq eb] at h3
      obtain ⟨u, rfl, ru⟩ := vals1 rv
      cases ru
      have each : ∀ {vs : List V} {ps : List (List Int)}, RpAll X.K Z vs (ps.map tupI) → (∀ x ∈ vs, ∃ t, x = V.ref t ∧ SqT X.K H t ((keyT X.K Z x).map V.int)) ∧ vs.map (keyT X.K Z) = ps ∧ ∀ x ∈ vs, Rp X.K Z x (tupI (keyT X.K Z x)) := by
        intro vs
        induction vs with
        | nil =>
          intro ps ra
          cases ps with
          | nil => exact ⟨fun x hx => (nomatch hx), rfl, fun x hx => (nomatch hx)⟩
          | cons p ps => cases ra
        | cons v vs ih =>
          intro ps ra
          cases ps with
          | nil => cases ra
          | cons p ps =>
            cases ra with
            | cons a1 a2 =>
              obtain ⟨i1, i2, i3⟩ := ih a2
              have ek := rp_tupI_key (fun t xs ys a b => I.tuple_inj (same_sqT hz a) (same_sqT hz b)) a1
              obtain ⟨t, et, ht⟩ := rp_tupI a1
              refine ⟨fun x hx => ?_, by rw [List.map_cons, ek, i2], fun x hx => ?_⟩
              · rcases List.mem_cons.mp hx with rfl | hx
                · exact ⟨t, et, by rw [ek]; exact same_sqT hz ht⟩
                · exact i1 x hx
              · rcases List.mem_cons.mp hx with rfl | hx
                · rw [ek]; exact a1
                · exact i3 x hx
      obtain ⟨i1, i2, i3⟩ := each h3
      have hlen := congrArg List.length i2
      rw [List.length_map] at hlen
      refine sorted_tups (keyT X.K Z) I (.inl h1) i1 (fun h2 x hx => g.1 (by rw [← hlen]; exact h2) _ (by rw [← i2]; exact List.mem_map.mpr ⟨x, hx, rfl⟩)) fun ys p' hs hb hn => ?_
      have hp := hb.perm
      have ry : RpAll X.K Z ys ((ys.map (keyT X.K Z)).map tupI) := by
        have all : ∀ x ∈ ys, Rp X.K Z x (tupI (keyT X.K Z x)) := fun x hx => i3 x (hp.mem_iff.mp hx)
        clear hs hb hn hp
        induction ys with
        | nil => exact .nil
        | cons y ys ih => exact .cons (all y List.mem_cons_self) (ih fun x hx => all x (List.mem_cons_of_mem _ hx))
      refine q _ _ Z _ (.lst hz hn (by rw [hp.length_eq]; exact h2) ry) (g.2 _ (by rw [← i2]; exact hp.map _) ?_)
      rw [List.pairwise_map]
      exact hs
    · exact g.elim
  · exact g.elim
/-- sorted, by what stands in the list -/
def bSorted : VN := fun ds Q => match ds with
  | [.list xs] => match intsOf xs with
    | some _ => bSortI [.list xs] Q
    | none => match pairsOf xs with
      | some _ => bSortP [.list xs] Q
      | none => bSortT [.list xs] Q
  | [.tuple xs] => match intsOf xs with
    | some ns => ∀ ms : List Int, ms.Perm ns → ms.Pairwise (· ≤ ·) → Q (.own (.l (ms.map .int)))
    | none => bSortPT [.tuple xs] Q
  | _ => False
theorem fb_sorted : CallR X (.builtin "sorted") (rFN X.K bSorted) := by
  intro pins s σ H vs us Q I rv ⟨Z, ds, Qf, hz, rr, g, q⟩
  unfold bSorted at g
  split at g
  · split at g
    · exact fb_sortI pins s σ H vs us Q I rv ⟨Z, _, Qf, hz, rr, g, q⟩
    · split at g
      · exact fb_sortP pins s σ H vs us Q I rv ⟨Z, _, Qf, hz, rr, g, q⟩
      · exact fb_sortT pins s σ H vs us Q I rv ⟨Z, _, Qf, hz, rr, g, q⟩
  · split at g
    · rename_i eb
      obtain ⟨v, rfl, r1⟩ := rr.one
      obtain ⟨p, vs, rfl, h1, h2, h3⟩ := r1.tuple hz
      rw [intsOf_eq eb] at h3
      rw [h3.ints] at h1 h2
      refine cr_sortedT pins s σ H _ us Q I rv ⟨p, _, rfl, h1, fun ns' p' hp hs hn => ?_⟩
      exact q _ _ Z _ (.lst hz hn (by rw [List.length_map] at h2 ⊢; rw [hp.length_eq]; exact h2) (RpAll.of_ints ns')) (g ns' hp hs)
    · exact fb_sortPT pins s σ H vs us Q I rv ⟨Z, _, Qf, hz, rr, g, q⟩
  · exact g.elim
end
end Hs
namespace Hs
open PySem PySem.Spec PyProof.Rows L2
end Hs
namespace Hs
open PySem PySem.Spec PyProof.Rows L2
def rowOf (r : R) (k : List D → Prop) : Prop :=
  match r with
  | .own (.l ds) => k ds
  | _ => False
theorem rowOf_ok {r : R} {k : List D → Prop} (h : rowOf r k) : ∃ ds, r = .own (.l ds) ∧ k ds := by
  cases r with
  | own w =>
    cases w with
    | l ds => exact ⟨ds, rfl, h⟩
    | _ => exact h.elim
  | _ => exact h.elim
def fCompL (X : XF) (g : FG) (wp : List Nat) (t : FT) (e : FE) (Q : R → S → Prop) : List D → List (List D) → S → Prop
  | [], acc, s => Q (.own (.ll acc)) s
  | x :: xs, acc, s => g x s fun s1 => t X s1 fun b s2 => if b = true then e X s2 fun r s3 => rowOf r fun ds => fCompL X g wp t e Q xs (acc ++ [ds]) (wipeS s3 wp) else fCompL X g wp t e Q xs acc (wipeS s2 wp)
def fLcL (it : FI) (g : FG) (wp : List Nat) (t : FT) (e : FE) : FE := fun X s Q => it X s fun xs s1 => xs.length ≤ sizeLine ∧ fCompL (fun _ _ => False) g wp t e Q xs [] (wipeS s1 wp)
/-- rows[j][k] = e, j and k in slots -/
def fSetLL (i ia ib : Nat) (a : FE) : FS := fun E s => a E.xx s fun r s1 => frz r s1 fun d s2 => ∃ xss k1 k2, s2.getD i .no = .ll xss ∧ s2.getD ia .no = .d (.int k1) ∧ s2.getD ib .no = .d (.int k2) ∧ 0 ≤ k1 ∧ k1.toNat < xss.length ∧ 0 ≤ k2 ∧ k2.toNat < (xss.getD k1.toNat []).length ∧
  E.nx (s2.set i (.ll (xss.set k1.toNat ((xss.getD k1.toNat []).set k2.toNat d))))
section
variable {K : PySem.W.Frag} {Z Y H : Hp} {σ : St} {s : S}
theorem Rel.newLL0 (r : Rel K Z Y H σ s) {p : Addr} (h : H p = none) : Rel K Z Y (upd H p (.lst [])) (σ ++ [some (.ref p)]) (s ++ [.ll []]) :=
  r.push (F := [p]) (same_upd h) (Same.refl _) (r.zh.trans (same_upd h)) (fun _ _ => rfl) ⟨p, [], rfl, rfl, upd_same, Nat.zero_le _, .nil⟩ (by simp) fun a ha => by
    obtain rfl : a = p := by simpa using ha
    exact ⟨h, r.fresh h⟩
theorem LL.snoc {q : Addr} {vs : List V} {xs : List D} (hq : H q = some (.lst vs)) (hl : vs.length ≤ sizeLine) (ha : RpAll K Z vs xs) : ∀ {qs : List Addr} {xss : List (List D)}, LL K Z H qs xss → LL K Z H (qs ++ [q]) (xss ++ [xs])
  | _, _, .nil => .cons hq hl ha .nil
  | _, _, .cons h z a r => .cons h z a (LL.snoc hq hl ha r)
theorem LL.len : ∀ {qs : List Addr} {xss : List (List D)}, LL K Z H qs xss → qs.length = xss.length
  | _, _, .nil => rfl
  | _, _, .cons _ _ _ r => congrArg (· + 1) r.len
theorem LL.get : ∀ {qs : List Addr} {xss : List (List D)} {j : Nat}, LL K Z H qs xss → j < xss.length → ∃ q vs, qs[j]? = some q ∧ H q = some (.lst vs) ∧ vs.length ≤ sizeLine ∧ RpAll K Z vs (xss.getD j [])
  | _, _, _, .nil, h => by simp at h
  | _, _, 0, .cons h z a r, _ => ⟨_, _, rfl, h, z, a⟩
  | _, _, j + 1, .cons h z a r, hj => r.get (j := j) (by simpa using hj)
theorem LL.away {q : Addr} {o : HO} : ∀ {qs : List Addr} {xss : List (List D)}, LL K Z H qs xss → q ∉ qs → LL K Z (upd H q o) qs xss
  | _, _, .nil, _ => .nil
  | _, _, .cons h z a r, hn => .cons (by rw [upd_ne (fun e => hn (by rw [e]; exact List.mem_cons_self))]; exact h) z a (r.away fun hm => hn (List.mem_cons_of_mem _ hm))
theorem LL.put {q : Addr} {vs : List V} {xs : List D} (hl : vs.length ≤ sizeLine) (ha : RpAll K Z vs xs) : ∀ {qs : List Addr} {xss : List (List D)} {j : Nat}, LL K Z H qs xss → qs.Nodup → qs[j]? = some q → LL K Z (upd H q (.lst vs)) qs (xss.set j xs)
  | _, _, _, .nil, _, e => by simp at e
  | _, _, 0, .cons h z a r, nd, e => by
    cases e
    exact .cons upd_same hl ha (r.away (List.nodup_cons.mp nd).1)
  | _, _, j + 1, .cons h z a r, nd, e => by
    have e : _ = some q := e
    refine .cons ?_ z a (r.put (j := j) hl ha (List.nodup_cons.mp nd).2 e)
    rw [upd_ne]
    · exact h
    · rintro rfl
      exact (List.nodup_cons.mp nd).1 (List.mem_of_getElem? e)
theorem Rel.pushRow {v : V} {pD : Addr} {ds : List D} {xss : List (List D)} {avs : List V} (r : Rel K Z Y H (σ ++ [some v] ++ [some (.ref pD)]) (s ++ [.l ds] ++ [.ll xss])) (hl : σ.length = s.length) (hD : H pD = some (.lst avs)) (hz : avs.length + 1 ≤ sizeLine) :
    ∃ q, v = .ref q ∧ Rel K Z Y (upd H pD (.lst (avs ++ [.ref q]))) (σ ++ [some (.ref pD)]) (s ++ [.ll (xss ++ [ds])]) := by
  obtain ⟨F, o⟩ := r.own
  have a1 := o.at_ σ.length
  rw [List.append_assoc, List.append_assoc, getD_app_ge (l := σ) (Nat.le_refl _), getD_app_ge (l := s) (by omega), Nat.sub_self, hl, Nat.sub_self] at a1
  obtain ⟨q, vs, e1, e2, e3, e4, e5⟩ := a1
  have ev : v = .ref q := by
    have e1 : (some v : Option V) = some (.ref q) := e1
    cases e1; rfl
  subst ev
  have a2 := o.at_ (σ.length + 1)
  rw [getD_app_ge (by rw [List.length_append]; exact Nat.le_refl _), getD_app_ge (by rw [List.length_append, hl]; exact Nat.le_refl _), List.length_append, List.length_append, hl] at a2
  have z0 : s.length + 1 - (s.length + [SV.l ds].length) = 0 := by simp
  have z1 : s.length + 1 - (s.length + [some (V.ref q)].length) = 0 := by simp
  rw [z0, z1] at a2
  obtain ⟨p, qs, f1, f2, f3, f4, f5⟩ := a2
  have ep : p = pD := by
    have f1 : (some (V.ref pD) : Option V) = some (.ref p) := f1
    cases f1; rfl
  subst ep
  have ea : avs = qs.map V.ref := by rw [f3] at hD; cases hD; rfl
  subst ea
  have nd := o.nd (s.length + 1)
  rw [f2] at nd
  have dj : ∀ a, a ∈ F s.length → a ∈ F (s.length + 1) → False := fun a h1 h2 => by have := o.dj _ _ a h1 h2; omega
  have qn : q ∉ p :: qs := fun h => dj q (by rw [e2]; exact List.mem_cons_self) (by rw [f2]; exact h)
  have pf := o.fr (s.length + 1) p (by rw [f2]; exact List.mem_cons_self)
  have pp : ∀ i, i ≠ s.length + 1 → p ∉ F i := fun i hi h => hi (o.dj i _ p h (by rw [f2]; exact List.mem_cons_self))
  refine ⟨q, rfl, fun b x e => ?_, fun b x e => ?_, r.zy, r.yt, by simp [hl], fun i => if i < s.length then F i else if i = s.length then p :: (qs ++ [q]) else [], fun i => ?_, fun i => ?_, fun i j a ha ha' => ?_, fun i a ha => ?_⟩
  · rw [upd_ne (fun z => by rw [z, pf.1] at e; cases e)]; exact r.zh b x e
  · rw [upd_ne (fun z => by rw [z, pf.2] at e; cases e)]; exact r.yh b x e
  · by_cases hi : i < s.length
    · rw [if_pos hi, getD_app_lt (by omega), getD_app_lt hi]
      have q0 := o.at_ i
      rw [List.append_assoc, List.append_assoc, getD_app_lt (by omega), getD_app_lt hi] at q0
      refine q0.mono (Same.refl _) fun a ha ob e => ?_
      rw [upd_ne (fun z => pp i (by omega) (by rw [← z]; exact ha))]
      exact e
    · rw [if_neg hi]
      by_cases hi2 : i = s.length
      · subst hi2
        rw [if_pos rfl, getD_app_ge (by omega), getD_app_ge (Nat.le_refl _), hl, Nat.sub_self]
        refine ⟨p, qs ++ [q], rfl, rfl, ?_, ?_, ?_⟩
        · rw [List.map_append]; exact upd_same
        · rw [List.length_append]
          rw [List.length_map] at hz
          exact hz
        · have l1 := f5.away (q := p) (o := .lst (qs.map V.ref ++ [.ref q])) (List.nodup_cons.mp nd).1
          refine l1.snoc ?_ e4 e5
          rw [upd_ne (fun z => qn (by rw [z]; exact List.mem_cons_self))]
          exact e3
      · rw [if_neg hi2, getD_out (l := s ++ [SV.ll (xss ++ [ds])]) (by simp; omega)]
        exact rfl
  · by_cases hi : i < s.length
    · rw [if_pos hi]; exact o.nd i
    · rw [if_neg hi]
      by_cases hi2 : i = s.length
      · rw [if_pos hi2, ← List.cons_append]
        exact List.nodup_append.mpr ⟨nd, by simp, fun a ha b hb => by
          obtain rfl := List.mem_singleton.mp hb
          exact fun e => qn (by rw [← e]; exact ha)⟩
      · rw [if_neg hi2]; exact .nil
  · have both : ∀ i, a ∈ (if i < s.length then F i else if i = s.length then p :: (qs ++ [q]) else []) → (i < s.length ∧ a ∈ F i) ∨ (i = s.length ∧ (a ∈ F s.length ∨ a ∈ F (s.length + 1))) := fun i h => by
      by_cases hi : i < s.length
      · rw [if_pos hi] at h; exact .inl ⟨hi, h⟩
      · rw [if_neg hi] at h
        by_cases hi2 : i = s.length
        · rw [if_pos hi2, ← List.cons_append] at h
          refine .inr ⟨hi2, ?_⟩
          rcases List.mem_append.mp h with h | h
          · exact .inr (by rw [f2]; exact h)
          · exact .inl (by rw [e2]; exact h)
        · rw [if_neg hi2] at h; cases h
    rcases both i ha with ⟨h1, h2⟩ | ⟨h1, h2 | h2⟩ <;> rcases both j ha' with ⟨h3, h4⟩ | ⟨h3, h4 | h4⟩
    · exact o.dj _ _ a h2 h4
    · have := o.dj _ _ a h2 h4; omega
    · have := o.dj _ _ a h2 h4; omega
    · have := o.dj _ _ a h2 h4; omega
    · omega
    · omega
    · have := o.dj _ _ a h2 h4; omega
    · omega
    · omega
  · by_cases hi : i < s.length
    · rw [if_pos hi] at ha; exact o.fr i a ha
    · rw [if_neg hi] at ha
      by_cases hi2 : i = s.length
      · rw [if_pos hi2, ← List.cons_append] at ha
        rcases List.mem_append.mp ha with ha | ha
        · exact o.fr _ a (by rw [f2]; exact ha)
        · exact o.fr s.length a (by rw [e2]; exact ha)
      · rw [if_neg hi2] at ha; cases ha
/-- an item of a row written -/
theorem Rel.writeLL (r : Rel K Z Y H σ s) {i : Nat} {xss : List (List D)} {k1 : Nat} (hs : s.getD i .no = .ll xss) (hk : k1 < xss.length) :
    ∃ (p : Addr) (qs : List Addr) (q : Addr) (vs : List V), σ.getD i none = some (.ref p) ∧ H p = some (.lst (qs.map V.ref)) ∧ qs.length = xss.length ∧ qs[k1]? = some q ∧ H q = some (.lst vs) ∧ vs.length ≤ sizeLine ∧ RpAll K Z vs (xss.getD k1 []) ∧
      ∀ vs' xs', vs'.length ≤ sizeLine → RpAll K Z vs' xs' → Rel K Z Y (upd H q (.lst vs')) σ (s.set i (.ll (xss.set k1 xs'))) := by
  obtain ⟨F, o⟩ := r.own
  have a1 := o.at_ i
  rw [hs] at a1
  obtain ⟨p, qs, f1, f2, f3, f4, f5⟩ := a1
  obtain ⟨q, vs, g1, g2, g3, g4⟩ := f5.get hk
  have hi : i < s.length := by
    by_cases h : i < s.length
    · exact h
    · rw [getD_out (by omega)] at hs; cases hs
  have nd := o.nd i
  rw [f2] at nd
  have qm : q ∈ F i := by rw [f2]; exact List.mem_cons_of_mem _ (List.mem_of_getElem? g1)
  have pf := o.fr i q qm
  refine ⟨p, qs, q, vs, f1, f3, f5.len, g1, g2, g3, g4, fun vs' xs' hl ha => ⟨fun b x e => ?_, fun b x e => ?_, r.zy, r.yt, by rw [List.length_set]; exact r.len, F, fun j => ?_, o.nd, o.dj, o.fr⟩⟩
  · rw [upd_ne (fun z => by rw [z, pf.1] at e; cases e)]; exact r.zh b x e
  · rw [upd_ne (fun z => by rw [z, pf.2] at e; cases e)]; exact r.yh b x e
  · by_cases hj : i = j
    · subst hj
      rw [getD_set_self hi, f1, f2]
      refine ⟨p, qs, rfl, rfl, ?_, f4, f5.put hl ha (List.nodup_cons.mp nd).2 g1⟩
      rw [upd_ne (fun z => (List.nodup_cons.mp nd).1 (by rw [z]; exact List.mem_of_getElem? g1))]
      exact f3
    · rw [getD_set_ne hj]
      refine (o.at_ j).mono (Same.refl _) fun b hb ob e => ?_
      rw [upd_ne]
      · exact e
      · rintro rfl
        exact hj (o.dj i j b qm hb)
end
section
variable {X : Cx} {L : Lv} {e a b c : Expr} {es : List Expr} {fa fb fc : FE} {ft fu : FT} {fr : FA} {pos p : Pos} {ws : List Nat}
theorem fLcL_ok {fi : FI} {fg : FG} {vs : List Nat} {σ : St} {H : Hp} {Q : VK} (hv : ∀ j ∈ vs, j ∉ L.io) (h : liftE X L (fLcL fi fg vs ft fa) σ H Q) :
    tLc (liftI X L fi) (liftG X L.in0 vs fg) (liftT X L.in0 ft) (liftE X L.in0 fa) vs σ H Q := by
  obtain ⟨Z, Y, s, Xf, Qf, r, k, xo, h, q⟩ := h
  refine ⟨Z, Y, s, Xf, _, r, k, xo, h, fun J H1 Z1 s1 xs hz rl wk ⟨hsz, hcomp⟩ => fun D hD => ?_⟩
  have kw : L.keeps (wipe σ vs) := ⟨by rw [wipe_length]; exact k.1, fun j hj => by
    rw [wipe_get, if_neg (fun z => hv j z hj)]
    exact k.2 j hj⟩
  refine ⟨fun i m H' => ∃ Z' s' acc avs, Same Z1 Z' ∧ Rel X.K Z' Y H' (wipe σ vs ++ [some (.ref D)]) (s' ++ [.ll acc]) ∧ s'.length = σ.length ∧ (∀ j ∈ vs, s'.getD j .no = .no) ∧ H' D = some (.lst avs) ∧ avs.length ≤ i ∧ m = xs.length - i ∧ i ≤ xs.length ∧ fCompL (fun _ _ => False) fg vs ft fa Qf (xs.drop i) acc s',
    ⟨xs.length, Z1, wipeS s1 vs, [], [], Same.refl _, Rel.wipe2 (rl.newLL0 hD) rl.len vs, by rw [wipeS_len]; exact rl.len.symm, fun j hj => by rw [wipeS_get, if_pos hj], upd_same, Nat.le_refl _, rfl, Nat.zero_le _, hcomp⟩, ?_⟩
  rintro i m H' ⟨Z', s', acc, avs, hz', r', hl', hno, hDl, hal, rfl, hle, hl⟩
  have hl'' : (wipe σ vs).length = s'.length := by rw [wipe_length, hl']
  by_cases hlt : i < xs.length
  · refine .inr ⟨wk.go i H' (hz'.trans r'.zh) hlt, fun H2 => ∃ Z2 s2 acc2 avs2, Same Z' Z2 ∧ Rel X.K Z2 Y H2 (wipe σ vs ++ [some (.ref D)]) (s2 ++ [.ll acc2]) ∧ s2.length = σ.length ∧ (∀ j ∈ vs, s2.getD j .no = .no) ∧ H2 D = some (.lst avs2) ∧ avs2.length ≤ i + 1 ∧ fCompL (fun _ _ => False) fg vs ft fa Qf (xs.drop (i + 1)) acc2 s2,
      fun H2 ⟨Z2, s2, acc2, avs2, hz2, r2, l2, n2, d2, al2, h2⟩ => ⟨xs.length - (i + 1), by omega, Z2, s2, acc2, avs2, hz'.trans hz2, r2, l2, n2, d2, al2, rfl, hlt, h2⟩, fun x H2 hy => ?_⟩
    obtain ⟨d, Z2, hd, n⟩ := wk.yld i H' x H2 Z' hz' r'.zh hlt hy
    have ed : xs.drop i = d :: xs.drop (i + 1) := by
      obtain ⟨h1, h2⟩ := List.getElem?_eq_some_iff.mp hd
      rw [List.drop_eq_getElem_cons hlt, h2]
    rw [ed] at hl
    have r2 : Rel X.K Z2 Y H2 (wipe σ vs ++ [some (.ref D)]) (s' ++ [.ll acc]) := r'.grow n.hh n.hz n.zh n.old
    have hD2 : H2 D = some (.lst avs) := n.hh _ _ hDl
    obtain ⟨Y', hy', rl2, back, held⟩ := r2.frame hl''
    have yD : Y' D = some (.lst avs) := by
      obtain ⟨F, p', v', e1, e2, e3, _⟩ := held 0
      cases e1
      exact e3.trans ((rl2.yh _ _ e3).symm.trans hD2)
    have bk : ∀ Z1 H1 σ1 s1, Same Z2 Z1 → Rel X.K Z1 Y' H1 σ1 s1 → Rel X.K Z1 Y H1 σ1 s1 := fun Z1 H1 σ1 s1 hz q => (back Z1 H1 σ1 s1 hz q).take q.len
    refine ⟨Z2, Y', s', d, _, rl2, kw, n.val, hl, fun σ3 s3 k3 o3 r3 h3 => ⟨(wipe_only o3).trans (wipe_only wipe_wipe), ?_⟩⟩
    refine ⟨Z2, Y', s3, fun _ _ => False, _, r3, k3, XOk.none, h3, fun b H3 Z3 s4 hz3 r4 h4 => ?_⟩
    have e34 : wipe σ3 vs = wipe σ vs := (wipe_only o3).trans (wipe_only wipe_wipe)
    cases b with
    | false =>
      have h4 : fCompL (fun _ _ => False) fg vs ft fa Qf (xs.drop (i + 1)) acc (Hs.wipeS s4 vs) := h4
      have b4 := back Z3 H3 _ _ hz3 r4
      have w4 := b4.wipe2 r4.len vs
      rw [e34] at w4
      exact ⟨Z3, Hs.wipeS s4 vs, acc, avs, n.hz.trans hz3, w4, by rw [wipeS_len, ← r4.len, o3.1, wipe_length], fun j hj => by rw [wipeS_get, if_pos hj], r4.yh _ _ yD, Nat.le_succ_of_le hal, h4⟩
    | true =>
      have h4 : fa (fun _ _ => False) s4 fun r s3 => rowOf r fun ds => fCompL (fun _ _ => False) fg vs ft fa Qf (xs.drop (i + 1)) (acc ++ [ds]) (Hs.wipeS s3 vs) := h4
      refine ⟨Z3, Y', s4, fun _ _ => False, _, r4, k3, XOk.none, h4, fun y H5 Z5 r5 s5 hz5 rx5 h5 => ?_⟩
      have hD5 : H5 D = some (.lst avs) := rx5.rel0.yh _ _ yD
      obtain ⟨ds, rfl, h6⟩ := rowOf_ok h5
      have b6 := back Z5 H5 _ _ (hz3.trans hz5) rx5.rel
      obtain ⟨q, w6⟩ := Rel.pushRow b6 rx5.l1 hD5 (Nat.succ_le_of_lt (Nat.lt_of_le_of_lt hal (Nat.lt_of_lt_of_le hlt hsz)))
      obtain ⟨rfl, w6⟩ := w6
      refine ⟨avs, hD5, Nat.lt_of_le_of_lt hal (Nat.lt_of_lt_of_le hlt hsz), Z5, Hs.wipeS s5 vs, acc ++ [ds], avs ++ [.ref q], (n.hz.trans hz3).trans hz5, ?_, by rw [wipeS_len, ← rx5.l1, o3.1, wipe_length], fun j hj => by rw [wipeS_get, if_pos hj], upd_same, by rw [List.length_append]; exact Nat.succ_le_succ hal, h6⟩
      have w7 := Rel.wipe2 w6 rx5.l1 vs
      rw [e34] at w7
      exact w7
  · have ei : i = xs.length := by omega
    subst ei
    rw [List.drop_length] at hl
    have r9 : Rel X.K Z' Y H' (σ ++ [some (.ref D)]) (s' ++ [.ll acc]) := Rel.unwipe r' (vs := vs) ⟨(wipe_length σ vs).symm, fun j hj => (wipe_wipe.2 j hj).symm⟩ hl'' hno
    exact .inl ⟨wk.stop _ H' (hz'.trans r'.zh) (Nat.le_refl _), q _ H' Z' _ s' (hz.trans hz') (.own hl'.symm r9) hl⟩
theorem pfs_setLcL {i : Nat} {y : Str} {py : Pos} {elt tg iter : Expr} {ifs : List Expr} {scope : Scope} {own : List (Str × Nat)} {spos : Pos} {fi : FI} {fg : FG} (hc : X.calm = true) (hN : X.N.Nodup)
    (hsw : swapsWith (.ListComp elt [⟨tg, iter, ifs, 0⟩] scope pos) (some (.Name y py)) spos.line X.env = pure true) (hi : PFI X L tg iter fi) (ok : BlkOk X.N X.env.scope scope own)
    (hg : ∀ (s : Shared) (H : Hp) (C : Addr) (cl : List (Str × Addr)) (fp : List Addr), PFG (X.blk s H scope (compEnvC scope cl C X.env) fp) L.in0 (own.map fun p : Str × Nat => p.2) tg fg) (ht : ∀ (s : Shared) (H : Hp) (C : Addr) (cl : List (Str × Addr)) (fp : List Addr), PFTs (X.blk s H scope (compEnvC scope cl C X.env) fp) L.in0 ifs ft)
    (he : ∀ (s : Shared) (H : Hp) (C : Addr) (cl : List (Str × Addr)) (fp : List Addr), PF (X.blk s H scope (compEnvC scope cl C X.env) fp) L.in0 elt fa) (hy : X.N[i]? = some y := by rfl) (hyl : X.env.scope.names.lookup y = some .local := by rfl) (hio : i ∉ L.io := by exact of_decide_eq_true rfl)
    (hv : ∀ j ∈ (own.map fun p : Str × Nat => p.2), j ∉ L.io := by exact of_decide_eq_true rfl) (hs : ∀ x, foldedSetIterable iter X.env x = pure x := by intro _; rfl) :
    PFS X L (.Assign [.Name y py] (.ListComp elt [⟨tg, iter, ifs, 0⟩] scope pos) spos) (fAsg i (fLcL fi fg (own.map fun p : Str × Nat => p.2) ft fa)) :=
  PS_imp (ps_setLc (own := own) (wi := liftI X L fi) (g := liftG X L.in0 (own.map fun p : Str × Nat => p.2) fg) (tt := liftT X L.in0 ft) (te := liftE X L.in0 fa) hc hN hy hyl hsw hi ok hg (fun s H C cl fp => (ht s H C cl fp).h) he hs) fun D σ H ⟨Z, Y, s, Ef, r, k, h, eo⟩ => by
  refine fLcL_ok (Q := fun x H1 => gName i x σ H1 D.nx) hv ⟨Z, Y, s, Ef.xx, _, r, k, eo.xx, h, fun v H1 Z1 r1 s1 hz rx h1 => ?_⟩
  obtain ⟨Z2, s2, hz2, rl2, h2⟩ := putR_ok rx h1
  exact eo.nx _ H1 Z2 s2 (hz.trans hz2) (L.keeps_set k hio) rl2 h2
variable {y ya yb : Str} {px pa pb : Pos}
theorem pfs_setLL (i ia ib : Nat) {p1 p2 : Pos} (he : PF X L e fa) (ho : PE X (.Name y px) (tVar i)) (hja : PE X (.Name ya pa) (tVar ia)) (hjb : PE X (.Name yb pb) (tVar ib))
    (ha : ∀ v, assign (.Subscript (.Subscript (.Name y px) (.Name ya pa) p1) (.Name yb pb) p2) X.env v = (do
      let ov ← holding [v] (eval (.Subscript (.Name y px) (.Name ya pa) p1) X.env)
      let iv ← holding [v, ov] (eval (.Name yb pb) X.env)
      standAt p2
      holding [v, ov, iv] (setItem ov iv v)
      release [v, ov, iv] []) := by intro _; rfl)
    (hs : swapsWithSole [.Subscript (.Subscript (.Name y px) (.Name ya pa) p1) (.Name yb pb) p2] e pos.line X.env = pure false := by rfl) (hw : swappedStores [.Subscript (.Subscript (.Name y px) (.Name ya pa) p1) (.Name yb pb) p2] e X.env = pure none := by rfl)
    (h1 : (assignEach [.Subscript (.Subscript (.Name y px) (.Name ya pa) p1) (.Name yb pb) p2] X.env).map (·.2) = [assign (.Subscript (.Subscript (.Name y px) (.Name ya pa) p1) (.Name yb pb) p2) X.env] := by rfl)
    (hpl : PlainIx (.Name ya pa) := by exact fun _ _ => rfl) :
    PFS X L (.Assign [.Subscript (.Subscript (.Name y px) (.Name ya pa) p1) (.Name yb pb) p2] e pos) (fSetLL i ia ib fa) :=
  PS_imp (ps_asg he (pg_sub (pe_ix ix_list ho hja hpl) hjb set_list ha) hs hw h1) fun D σ H ⟨Z, Y, s, Ef, r, k, h, eo⟩ => by
  refine ⟨Z, Y, s, Ef.xx, _, r, k, eo.xx, h, fun v H1 Z1 r1 s1 hz rx h1 => ?_⟩
  obtain ⟨Z2, d, s2, hz2, rx2, xss, k1, k2, e0, e1, e2, l1, l2, l3, l4, h2⟩ := frz_ok (us := []) (ds := []) (vs := []) (rs := []) rx rfl h1
  obtain ⟨p, qs, q, vs, w1, w2, w3, w4, w5, w6, w7, wr⟩ := rx2.rel0.writeLL e0 l2
  obtain ⟨F1, s1'⟩ := rx2.rel0.slot ia
  rw [e1] at s1'
  obtain ⟨_, u1, v1, rp1⟩ := s1'
  cases rp1
  obtain ⟨F2, s2'⟩ := rx2.rel0.slot ib
  rw [e2] at s2'
  obtain ⟨_, u2, v2, rp2⟩ := s2'
  cases rp2
  have wl := w7.length
  have w := wr (vs.set k2.toNat v) ((xss.getD k1.toNat []).set k2.toNat d) (by rw [List.length_set]; exact w6) (w7.set rx2.vd _)
  refine ⟨.ref p, getD_some w1, .int k1, getD_some v1, p, qs.map V.ref, k1, .ref q, rfl, rfl, .inl (.inl w2), ?_, .int k2, getD_some v2, q, vs, k2, k2.toNat, rfl, rfl, w5, ?_, eo.nx σ _ Z2 _ (hz.trans hz2) k w h2⟩
  · obtain ⟨j, rfl⟩ := Int.eq_ofNat_of_zero_le l1
    rw [Int.toNat_natCast] at w4
    exact atI_nat (by rw [List.getElem?_map, w4]; rfl)
  · unfold ixN
    rw [if_pos l3, if_pos (by omega)]
end
theorem st_setLL {i ia ib : Nat} {a : FE} {E : FEnds} {s : S} (h : a E.xx s fun r s1 => frz r s1 fun d s2 => ∃ xss k1 k2, s2.getD i .no = .ll xss ∧ s2.getD ia .no = .d (.int k1) ∧ s2.getD ib .no = .d (.int k2) ∧ 0 ≤ k1 ∧ k1.toNat < xss.length ∧ 0 ≤ k2 ∧ k2.toNat < (xss.getD k1.toNat []).length ∧
  E.nx (s2.set i (.ll (xss.set k1.toNat ((xss.getD k1.toNat []).set k2.toNat d))))) : fSetLL i ia ib a E s := h
theorem compL_list {α : Type} {X : XF} {fg : FG} {wp : List Nat} {e : FE} {Q : R → S → Prop} {s : S} (g : α → D) (f : α → List D) (l : List α) (hs : ∀ a, a ∈ l → ∀ (kT : List D → S → Prop), kT (f a) s → fg (g a) s fun s1 => e X s1 fun r s3 => rowOf r fun ds => kT ds (wipeS s3 wp)) (h : Q (.own (.ll (l.map f))) s) :
    fCompL X fg wp fYes e Q (l.map g) [] s := by
  have go : ∀ (l : List α) (acc : List (List D)), (∀ a, a ∈ l → ∀ (kT : List D → S → Prop), kT (f a) s → fg (g a) s fun s1 => e X s1 fun r s3 => rowOf r fun ds => kT ds (wipeS s3 wp)) → Q (.own (.ll (acc ++ l.map f))) s → fCompL X fg wp fYes e Q (l.map g) acc s := by
    intro l
    induction l with
    | nil =>
      intro acc _ h
      rw [List.map_nil, List.append_nil] at h
      exact h
    | cons a l ih =>
      intro acc hs h
      rw [List.map_cons]
      show fg (g a) s fun s1 => e X s1 fun r s3 => rowOf r fun ds => fCompL X fg wp fYes e Q (l.map g) (acc ++ [ds]) (wipeS s3 wp)
      refine hs a List.mem_cons_self (fun ds s4 => fCompL X fg wp fYes e Q (l.map g) (acc ++ [ds]) s4) ?_
      refine ih _ (fun b hb => hs b (List.mem_cons_of_mem _ hb)) ?_
      rw [List.append_assoc]
      exact h
  exact go l [] hs h
end Hs
namespace Hs
open PySem
theorem st_rowOf {ds : List D} {k : List D → Prop} (h : k ds) : rowOf (.own (.l ds)) k := h
end Hs
namespace L2
open PySem PySem.Spec PyProof.Rows
section
variable {X : Cx} {pins : List (Addr × Obj)} {σ : St} {H : Hp} {s : Shared}
/-- an object that is there is looked at from now on -/
theorem Inv.track {a : Addr} {φ : Heap → Prop} (I : Inv X pins σ H s) (na : H a = none) (h0 : ∀ o, X.s_0.heap.get? a = some o → a ∈ X.ex) (hp : ∀ p ∈ X.pn ++ pins, p.1 ≠ a) (hL : a ≠ X.env.locals) (hC : ∀ x c, X.env.cells.lookup x = some c → c ≠ a)
    (new : ObjOk X.prog X.w (upd H a (.ext φ)) s.heap a (.ext φ)) : Inv X pins σ (upd H a (.ext φ)) s where
  ok := I.ok
  os := I.os
  bare := I.bare
  base := ⟨I.base.keep, I.base.slot, fun b o q n hx => by
      rw [upd_ne (fun z => hx (by rw [z] at q ⊢; exact h0 o q))]
      exact I.base.free b o q n hx, I.base.there, fun b xs q => by
      have q2 := I.base.tups b xs q
      rw [upd_ne (ne_of_none q2 na)]; exact q2, fun b o u q => by
      have q2 := I.base.frzs b o u q
      rw [upd_ne (ne_of_none q2 na)]; exact q2, fun b ps q => by
      obtain ⟨more, q2⟩ := I.base.tbls b ps q
      exact ⟨more, by rw [upd_ne (ne_of_none q2 na)]; exact q2⟩⟩
  loc := I.loc
  cell := I.cell
  free := by rw [upd_ne (Ne.symm hL)]; exact I.free
  freeC := fun x c e => by rw [upd_ne (hC x c e)]; exact I.freeC x c e
  pin := fun p q => by
    obtain ⟨h1, h2, h3⟩ := I.pin p q
    exact ⟨h1, by rw [upd_ne (hp p q)]; exact h2, h3⟩
  hok := I.hok.laidN (fun _ _ e => e) na new
  len := I.len
theorem Inv.suite0 (I : Inv X pins σ H s) (a : Addr) : Inv (X.suite a (X.pn ++ pins)) [] σ H s :=
  ⟨I.ok.suite _ _, I.os, I.bare, I.base, I.loc, I.cell, I.free, I.freeC, fun p hp => I.pin p (by rw [List.append_nil] at hp; exact hp), I.hok, I.len⟩
theorem Inv.unsuite0 {a : Addr} {pn' : List (Addr × Obj)} (I : Inv (X.suite a (X.pn ++ pins)) pn' σ H s) (ok : X.Ok) : Inv X pins σ H s :=
  ⟨ok, I.os, I.bare, I.base, I.loc, I.cell, I.free, I.freeC, fun p hp => I.pin p (List.mem_append_left _ hp), I.hok, I.len⟩
end
/-- what the body may raise: errors of classes under c, made with a text; the suite has them as things to look at -/
def wAsE (K : PySem.W.Frag) (c : Value) (i : Nat) (ts : TS) (D : Ends) : WX := fun cls d σ H =>
  d = none ∧ ∃ C : Addr, cls = .ref C ∧ PySem.W.exmOne K cls c = some true ∧ ∀ a, H a = none → ts { nx := fun σ' H' => D.nx (σ'.set i none) H', rt := D.rt, bk := fun σ' H' => D.bk (σ'.set i none) H', ct := fun σ' H' => D.ct (σ'.set i none) H' } (σ.set i (some (.ref a))) (upd H a (Hs.ExV C a))
section
variable {X : Cx} {x n : Str} {c : Value} {i : Nat} {body suite : List Stmt} {b₀ : Stmt} {np pos pos' : Pos} {tb : WX → TS} {ts : TS}
theorem ps_try_exc (hs : X.stack = X.env :: X.outer) (hf : X.env.frame = some X.env.locals) (hN : X.N.Nodup) (hi : X.N[i]? = some n) (hln : X.env.kindOf n = some .local) (hc : Names X x c)
    (hb : ∀ (W : WX) (pn : List (Addr × Obj)) (xe : Value → Shared → Prop), Takes (X.tr pn xe) W → PSs (X.tr pn xe) body (tb W))
    (hsu : ∀ (a : Addr) (pn : List (Addr × Obj)), PSs (X.suite a pn) (b₀ :: suite) ts) :
    PS X (.Try body [.ExceptHandler (some (.Name x np)) (some n) (b₀ :: suite) pos'] [] [] pos) (fun D σ H => tb (wAsE X.K c i ts D) D σ H) := by
  refine ⟨fun pins s σ H D I h => ?_⟩
  have ok := I.ok
  have hfr : X.A.frames = some (X.env :: X.outer) := by rw [ok.frames, hs]
  have hloc : Loc X.env.scope n := .inl hln
  refine wpAny_Try_except ?_
  refine wpAny_mono ((hb (wAsE X.K c i ts D) (X.pn ++ pins) (fun e s₁ => wpAny (model X.prog X.w) X.A (noteFrame e X.env) (fun _ s₂ => wpAny (model X.prog X.w) X.A (setFlight e none) (fun _ s₃ =>
    wpAny (model X.prog X.w) X.A (handleBy e X.env [.ExceptHandler (some (.Name x np)) (some n) (b₀ :: suite) pos']) (SP X pins D) X.xe s₃) X.xe s₂) X.xe s₁) (fun u s' xx => ?_)).run [] s σ H D (I.toTry _) h) (fun f s1 hsp => ?_) (fun e s1 he => he)
  · obtain ⟨a, B, sI, pins', σ', H', cls, d, rfl, J', nb, up, sky, na, os, ag, rfl, C, rfl, hb1, hyes⟩ := xx
    have J : Inv X pins σ' H' sI := J'.ofTry ok
    have sky' : Sky B (X.env :: X.outer) a (Zc (.ref C) none) X.env.locals s'.heap := by rw [← hs]; exact sky
    show wpAny (model X.prog X.w) X.A (noteFrame (.ref a) X.env) _ _ _
    refine Sky.land Zc.steady hfr hf sky' fun h3 fl3 up3 => ?_
    have J3 : Inv X pins σ' H' { s' with heap := h3 } := J.landed nb fl3.1 (up.trans up3) os ag
    obtain ⟨oe3, vs3, he3, hz3, hd3⟩ := fl3.there
    have nfr : a ∉ frs (X.env :: X.outer) := fun hm => by
      obtain ⟨_, o', e', hnf⟩ := fl3.2.2.1.mem hm
      rw [he3] at e'; cases e'
      exact hnf _ hd3
    have nL : a ≠ X.env.locals := fun z => nfr (List.mem_filterMap.mpr ⟨X.env, List.mem_cons_self, by rw [hf, z]⟩)
    have nF : a ∉ X.fs := fun hm => by
      obtain ⟨e, he, q⟩ := List.mem_filterMap.mp hm
      exact nfr (List.mem_filterMap.mpr ⟨e, List.mem_cons_of_mem _ he, q⟩)
    have new : ∀ o, sI.heap.get? a ≠ some o := fun o e => by
      have q := nb a o e (by rw [hs]; exact nfr)
      rw [fl3.2.1] at q; cases q
    have S3 := J3.suite he3 hd3 na nL nF
    refine wpAny_handleBy_cons (codeAny_handlers_test ?_) (by intro q; cases q)
    have LT : PySem.W.Looks (model X.prog X.w) h3 (typeOf (.ref a)) (.ref C) := fun A Q E s k q => wpAny_typeOf_ref (k _ _ he3) (by rw [hz3.1]; exact q)
    have LM := PySem.W.exm_one (M := model X.prog X.w) (J3.kIn) LT hb1
    have test : ∀ {Q : Value → Shared → Prop} {E : Value → Shared → Prop}, Q c { s' with heap := h3 } → wpAny (model X.prog X.w) (X.A.mark (some (.ref a))) (eval (.Name x np) X.env) Q E { s' with heap := h3 } := fun {Q E} q => by
      obtain ⟨hg, hdbg, hm | ⟨hm, hv, hnn⟩⟩ := hc
      · exact ld_glob (X := X.suite a ((a, oe3) :: (X.pn ++ pins))) S3 hg hm q hdbg
      · exact ld_blt (X := X.suite a ((a, oe3) :: (X.pn ++ pins))) S3 hg hm hv q hnn hdbg
    refine test (LM.here ?_)
    refine codeAny_handlers_suite_as ?_
    refine HandSPX.lands_againZ fl3 fun h4 fl4 up4 => ?_
    have J4 : Inv X pins σ' H' { s' with heap := h4 } := J.landed nb fl4.1 ((up.trans up3).trans up4) os ag
    obtain ⟨oe4, vs4, he4, hz4, hd4⟩ := fl4.there
    have T4 : Inv X pins σ' (upd H' a (Hs.ExV C a)) { s' with heap := h4 } := J4.track na
      (fun o e => by
        by_cases hx : a ∈ X.ex
        · exact hx
        · obtain ⟨o', e'⟩ := J.base.there a o e hx
          exact absurd e' (new o'))
      (fun p hp z => new p.2 (by rw [← z]; exact (J.pin p hp).1)) nL
      (fun y c' e z => by
        obtain ⟨v, o, eo, hd⟩ := J.cell y c' e
        rw [z] at eo
        exact new _ eo)
      ⟨⟨oe4, vs4, he4, hz4, hd4⟩, ⟨oe4, he4⟩, fun h1 h2 ⟨oe, vs, e1, z1, d1⟩ k => ⟨oe, vs, k _ e1, z1, d1⟩⟩
    refine store_ok (X := X.suite a (X.pn ++ pins)) (v := .ref a) (T4.suite0 a) hN hi hloc rfl (fun s5 S5 => ?_) (.inr hln)
    refine wpAny_mono ((hsu a (X.pn ++ pins)).run [] s5 _ _ _ S5 (hyes a na)) (fun f s6 hsp => ?_) (fun _ _ z => False.elim z)
    have end_ : ∀ {σ6 : St} {H6 : Hp} {Q : Shared → Prop}, Inv (X.suite a (X.pn ++ pins)) [] σ6 H6 s6 → (∀ s7, Inv X pins (σ6.set i none) H6 s7 → Q s7) →
        wpAny (model X.prog X.w) X.A (do bindName X.env n .none; unbindBehindTheSuite X.env n pos') (fun _ s7 => Q s7) X.xe s6 := fun {σ6 H6 Q} S6 hq => gone_ok (S6.unsuite0 ok) hN hi hln hq
    cases f with
    | next =>
      obtain ⟨σ6, H6, S6, q6⟩ := hsp
      exact end_ S6 fun s7 J7 => ⟨_, _, J7, q6⟩
    | brk =>
      obtain ⟨σ6, H6, S6, q6⟩ := hsp
      exact end_ S6 fun s7 J7 => ⟨_, _, J7, q6⟩
    | cont =>
      obtain ⟨σ6, H6, S6, q6⟩ := hsp
      exact end_ S6 fun s7 J7 => ⟨_, _, J7, q6⟩
    | ret u =>
      obtain ⟨v6, σ6, H6, S6, r6, q6⟩ := hsp
      exact end_ S6 fun s7 J7 => ⟨_, _, _, J7, r6, q6⟩
  · cases f with
    | next =>
      obtain ⟨σ', H', J', q⟩ := hsp
      exact wpAny_execs_nil ⟨σ', H', J'.ofTry ok, q⟩
    | brk =>
      obtain ⟨σ', H', J', q⟩ := hsp
      exact ⟨σ', H', J'.ofTry ok, q⟩
    | cont =>
      obtain ⟨σ', H', J', q⟩ := hsp
      exact ⟨σ', H', J'.ofTry ok, q⟩
    | ret u =>
      obtain ⟨v, σ', H', J', r, q⟩ := hsp
      exact ⟨v, σ', H', J'.ofTry ok, r, q⟩
/-- isinstance(e, c), e an error that is looked at -/
def rIsV (K : PySem.W.Frag) : List V → Hp → VK → Prop := fun xs H Q => ∃ (a D : Addr) (c : V) (cv : Value) (b : Bool), xs = [.ref a, c] ∧ H a = some (Hs.ExV D a) ∧ ExcC K D ∧ (∀ u, RelV c u → u = cv) ∧ PySem.W.kitOne K (.ref D) cv = some b ∧ Q (.bl b) H
theorem call_isV {X : Cx} : CallR X (.builtin "isinstance") (rIsV X.K) := by
  intro pins s σ H xs us Q I r h
  obtain ⟨a, D, c, cv, b, rfl, ha, C, hcv, e, q⟩ := h
  cases r with
  | cons rx rr =>
    cases rr with
    | cons rt rr =>
      cases rr
      cases rx
      have ec := hcv _ rt
      subst ec
      obtain ⟨⟨oe, vs, hget, hz, hv⟩, _⟩ := I.hok a _ ha
      have J : PySem.W.InstAt s.heap a oe D none := by
        obtain ⟨oc, od, oda, osl⟩ := oe
        obtain ⟨h1, h2⟩ := hz
        dsimp only at h1 h2 hv
        subst h1 h2 hv
        exact ⟨hget, rfl, rfl, trivial⟩
      exact PySem.W.kia_one (PySem.W.handS_kitx_exc C.hg C.hk C.hs C.hd C.ha C.hn C.ht C.hm) I.kIn J e (fun z => nomatch z) fun tk => ⟨.bl b, H, I.kept (t' := tk) fun _ _ z => z, rfl, q⟩
end
end L2
namespace Hs
open PySem PySem.Spec PyProof.Rows L2
/-- try: body / except C as e: suite; ns: the classes under C that the body may raise -/
def fTry (ns : List Str) (i : Nat) (body suite : FS) : FS := fun E s => body { E with xx := fun n s1 => n ∈ ns ∧ suite { E with nx := fun s2 => E.nx (s2.set i .no), bk := fun s2 => E.bk (s2.set i .no), ct := fun s2 => E.ct (s2.set i .no), xx := fun _ _ => False } (s1.set i (.d (excD n))) } s
section
variable {K : PySem.W.Frag} {Z Y H : Hp} {σ : St} {s : S}
theorem Rel.unset (r : Rel K Z Y H σ s) (i : Nat) : Rel K Z Y H (σ.set i none) (s.set i .no) :=
  r.re (fun k => if k = i then none else some k) (by rw [List.length_set, List.length_set]; exact r.len) (fun k => by
    by_cases h : k = i
    · subst h
      simp only [if_pos rfl]
      refine .inl ?_
      by_cases hk : k < s.length
      · exact getD_set_self hk
      · exact getD_out (by rw [List.length_set]; omega)
    · simp only [if_neg h]
      exact ⟨getD_set_ne (Ne.symm h), getD_set_ne (Ne.symm h)⟩) (fun k k' j h h' => by
    by_cases a : k = i
    · rw [if_pos a] at h; cases h
    · rw [if_neg a] at h
      by_cases b : k' = i
      · rw [if_pos b] at h'; cases h'
      · rw [if_neg b] at h'; cases h; cases h'; rfl)
end
section
variable {X : Cx} {L : Lv} {x n : Str} {c : Value} {i : Nat} {body suite : List Stmt} {b₀ : Stmt} {np pos pos' : Pos} {fb fs : FS} {ns : List Str}
theorem pfs_try (hs : X.stack = X.env :: X.outer) (hf : X.env.frame = some X.env.locals) (hN : X.N.Nodup) (hi : X.N[i]? = some n) (hln : X.env.kindOf n = some .local) (hc : Names X x c)
    (hns : ∀ m ∈ ns, X.mg m = some (.ref (He.ga X.K m)) ∧ PySem.W.exmOne X.K (.ref (He.ga X.K m)) c = some true)
    (hb : ∀ (W : WX) (pn : List (Addr × Obj)) (xe : Value → Shared → Prop), Takes (X.tr pn xe) W → PFSs (X.tr pn xe) { L with E := W } body fb)
    (hsu : ∀ (a : Addr) (pn : List (Addr × Obj)), PFSs (X.suite a pn) L (b₀ :: suite) fs) (hio : i ∉ L.io := by exact of_decide_eq_true rfl) :
    PFS X L (.Try body [.ExceptHandler (some (.Name x np)) (some n) (b₀ :: suite) pos'] [] [] pos) (fTry ns i fb fs) :=
  PS_imp (ps_try_exc hs hf hN hi hln hc (tb := fun W => liftS X { L with E := W } fb) (ts := liftS X L fs) (fun W pn xe tk => PSs_imp (hb W pn xe tk) fun D σ H ⟨Z, Y, s, Ef, r, k, h, eo⟩ => ⟨Z, Y, s, Ef, r, k, h, ⟨eo.nx, eo.rt, eo.bk, eo.ct, eo.xx⟩⟩) (fun a pn => PSs_imp (hsu a pn) fun D σ H ⟨Z, Y, s, Ef, r, k, h, eo⟩ => ⟨Z, Y, s, Ef, r, k, h, ⟨eo.nx, eo.rt, eo.bk, eo.ct, eo.xx⟩⟩)) fun D σ H ⟨Z, Y, s, Ef, r, k, h, eo⟩ => by
  refine ⟨Z, Y, s, _, r, k, h, ⟨eo.nx, eo.rt, eo.bk, eo.ct, ?_⟩⟩
  rintro m C Z' H' σ' s' hz k' r' ⟨hm, q⟩ e
  obtain ⟨e2, hx⟩ := hns m hm
  rw [e2] at e
  cases e
  refine ⟨rfl, _, rfl, hx, fun a na => ?_⟩
  have r1 := Rel.newZ r' (ExV (He.ga X.K m) a) na
  have z1 : Same Z' (upd Z' a (ExV (He.ga X.K m) a)) := same_upd (r'.fresh na)
  refine ⟨_, Y, _, _, Rel.put (r1.pushD (Rp.exc upd_same)) r1.len i, L.keeps_set k' hio, q, ⟨fun σ2 H2 Z2 s2 hz2 k2 r2 h2 => ?_, fun v σ2 H2 Z2 r s2 hz2 k2 r2 h2 => ?_, fun σ2 H2 Z2 s2 hz2 k2 r2 h2 => ?_, fun σ2 H2 Z2 s2 hz2 k2 r2 h2 => ?_, XOk.none⟩⟩
  · exact eo.nx _ _ _ _ ((hz.trans z1).trans hz2) (L.keeps_set k2 hio) (r2.unset i) h2
  · exact eo.rt _ _ _ _ _ _ ((hz.trans z1).trans hz2) k2 r2 h2
  · exact eo.bk _ _ _ _ ((hz.trans z1).trans hz2) (L.keeps_set k2 hio) (r2.unset i) h2
  · exact eo.ct _ _ _ _ ((hz.trans z1).trans hz2) (L.keeps_set k2 hio) (r2.unset i) h2
end
def bIsX (tb : List (Str × Bool)) : V1 := fun d k => match d with
  | .dict [(.none, .str c)] => match tb.lookup c with
    | some b => k (.d (.bool b))
    | none => False
  | _ => False
section
variable {K : PySem.W.Frag} {Z H : Hp} {v : V} {c : Str}
theorem RpV.exc (r : RpV K Z H v (.dict [(.none, .str c)])) (e : Same Z H) : ∃ a : Addr, v = .ref a ∧ H a = some (ExV (He.ga K c) a) := by
  rcases r with r | ⟨p, vs, xs', rfl, e2, h, z, a⟩ | ⟨p, kvs, rfl, e2, h⟩
  · generalize e0 : (PyData.dict [(.none, .str c)]) = d at r
    cases r with
    | lit h z =>
      unfold litD at e0
      injection e0 with e1
      injection e1 with e2 _
      injection e2 with _ e3
      cases e3
    | exc h =>
      unfold excD at e0
      injection e0 with e1
      injection e1 with e2 _
      injection e2 with _ e3
      injection e3 with e4
      subst e4
      exact ⟨_, rfl, e _ _ h⟩
    | dcK h a => cases e0; exact a.nolit.elim
    | dcT h a => cases e0
    | obj h1 h2 a => cases e0
    | _ => cases e0
  · cases e2
  · cases e2
    rcases h with ⟨ks, e1, r⟩ | ⟨ks, kvs', e0, e1, r⟩
    · exact r.nolit.elim
    · cases e0
end
section
variable {X : Cx} {L : Lv} {a : Expr} {fa : FE} {p p2 pos : Pos} {y : Str}
theorem isX_ok {tb : List (Str × Bool)} {w : V} {cv : Value} (hcv : ∀ u, RelV w u → u = cv) (hf : ∀ c b, tb.lookup c = some b → ExcC X.K (He.ga X.K c) ∧ PySem.W.kitOne X.K (.ref (He.ga X.K c)) cv = some b) {σ : St} {H : Hp} {Q : VK} (h : liftE X L (fUn (bIsX tb) fa) σ H Q) :
    tCB (rIsV X.K) (tCons (liftE X L fa) (tCons (tC w) tNil)) σ H Q := by
  obtain ⟨Z, Y, s, Xf, Qf, r, k, xo, h, q⟩ := h
  refine ⟨Z, Y, s, Xf, _, r, k, xo, h, fun v H1 Z1 r1 s1 hz rx h1 => ?_⟩
  obtain ⟨d, e1, h3⟩ := look_ok h1
  obtain ⟨v', ev, rv⟩ := rx.look (k := 0) rfl e1
  cases ev
  unfold bIsX at h3
  split at h3
  · split at h3
    · rename_i b hb
      obtain ⟨a, rfl, ha⟩ := rv.exc rx.rel0.zh
      obtain ⟨C, hk⟩ := hf _ _ hb
      exact ⟨a, _, w, cv, b, rfl, ha, C, hcv, hk, q _ H1 Z1 _ s1 hz (.d rx.rel0 (.bl _)) h3⟩
    · exact h3.elim
  · exact h3.elim
theorem pf_isX {tb : List (Str × Bool)} (ha : PF X L a fa) (hm : X.mg "isinstance" = none) (hC : X.mg y = some (.ref (He.ga X.K y))) (hf : ∀ c b, tb.lookup c = some b → ExcC X.K (He.ga X.K c) ∧ PySem.W.kitOne X.K (.ref (He.ga X.K c)) (.ref (He.ga X.K y)) = some b)
    (hg : Gl X "isinstance" := by rfl) (hgT : Gl X y := by rfl) (hdT : (y == ("__debug__" : Str)) = false := by decide) (he : starEach [a, .Name y p2] X.env = (false, eval a X.env) :: starEach [.Name y p2] X.env := by rfl) (he2 : starEach [.Name y p2] X.env = (false, eval (.Name y p2) X.env) :: starEach [] X.env := by rfl)
    (hpl : (backTo pos (starEach [.Name y p2] X.env)).any (·.1) = false := by rfl) : PF X L (.Call (.Name "isinstance" p) [a, .Name y p2] [] pos) (fUn (bIsX tb) fa) :=
  PE_imp (pe_callB call_isV hg hm (by decide +kernel) (pa_cons ha (pa_cons (pe_glob (v := .ref (He.ga X.K y)) hgT hC rfl hdT) pa_nil he2) he) (by decide) (by decide) he hpl) fun _ _ _ => isX_ok (fun u (e : RelV (.ref (He.ga X.K y)) u) => e) hf
theorem pf_isXT {tb : List (Str × Bool)} {T : String} (ha : PF X L a fa) (hm : X.mg "isinstance" = none) (hmT : X.mg y = none) (hbT : bootBuiltins y = some (.type T)) (hf : ∀ c b, tb.lookup c = some b → ExcC X.K (He.ga X.K c) ∧ PySem.W.kitOne X.K (.ref (He.ga X.K c)) (.type T) = some b)
    (hg : Gl X "isinstance" := by rfl) (hgT : Gl X y := by rfl) (hnT : y ≠ "__name__" := by decide) (hdT : (y == ("__debug__" : Str)) = false := by decide) (he : starEach [a, .Name y p2] X.env = (false, eval a X.env) :: starEach [.Name y p2] X.env := by rfl) (he2 : starEach [.Name y p2] X.env = (false, eval (.Name y p2) X.env) :: starEach [] X.env := by rfl)
    (hpl : (backTo pos (starEach [.Name y p2] X.env)).any (·.1) = false := by rfl) : PF X L (.Call (.Name "isinstance" p) [a, .Name y p2] [] pos) (fUn (bIsX tb) fa) :=
  PE_imp (pe_callB call_isV hg hm (by decide +kernel) (pa_cons ha (pa_cons (pe_bltn (v := .ty T) hgT hmT hbT rfl hnT hdT) pa_nil he2) he) (by decide) (by decide) he hpl) fun _ _ _ => isX_ok (fun u (e : RelV (.ty T) u) => e) hf
end
def mCountB : LM := fun xs ds k => match boolsOf xs, ds with
  | some bs, [.bool b] => k (.int (bs.count b : Nat)) xs
  | _, _ => False
def mIndexB : LM := fun xs ds k => match boolsOf xs, ds with
  | some bs, [.bool b] => b ∈ bs ∧ k (.int (bs.idxOf b : Nat)) xs
  | _, _ => False
theorem upd_back {H : Hp} {p : Addr} {o : HO} (h : H p = some o) : upd H p o = H := by
  funext b
  by_cases e : b = p
  · rw [e, upd_same, h]
  · rw [upd_ne e]
def eqkB (b : Bool) (v : Value) : Bool := match v with
  | .bool c => c == b
  | _ => false
theorem bools_count {b : Bool} : ∀ {bs : List Bool} {us : List Value}, Vals (bs.map V.bl) us → us.countP (eqkB b) = bs.count b
  | [], _, .nil => rfl
  | c :: bs, u :: us, .cons r rr => by
    have ih := bools_count (b := b) rr
    cases r
    rw [List.countP_cons, List.count_cons, ih]
    rfl
theorem bools_are : ∀ {bs : List Bool} {us : List Value}, Vals (bs.map V.bl) us → ∀ u ∈ us, ∃ c, u = Value.bool c
  | [], _, .nil, u, h => by cases h
  | c :: bs, u :: us, .cons r rr, v, h => by
    cases r
    rcases List.mem_cons.mp h with rfl | h
    · exact ⟨c, rfl⟩
    · exact bools_are rr v h
section
variable {X : Cx}
theorem fm_countB : MtR X "list.count" (rLm X.K mCountB) := by
  intro pins s σ H x us v vs Q I rx rv ⟨Z, p, ws, xs, ds, Qf, ex, hp, hl, ra, hz, rd, g, q⟩
  unfold mCountB at g
  split at g
  · rename_i bs b eb
    cases rd with
    | cons r1 r2 =>
      cases r2
      cases r1
      subst ex
      rw [boolsOf_eq eb] at ra
      rw [ra.bools] at hp
      cases rx
      obtain ⟨u, rfl, ru⟩ := rv.one
      cases ru
      obtain ⟨z, its, n, r, hl2, e⟩ := I.lstM hp
      refine call_meets PySem.F.slot_list_count ⟨_, e, rfl⟩ PySem.F.entry_list_count (PySem.F.args_list_count_2 _ _)
        (SeqAt.list_countAt p its.toArray n _ _ (.bool b) (eqkB b)) ⟨e, fun y hy => ?_, ?_⟩
      · obtain ⟨c, rfl⟩ := bools_are r y (by simpa using hy)
        exact SeqAt.EqAt.bool_bool c b
      · have ec : its.toArray.toList.countP (eqkB b) = bs.count b := bools_count r
        refine ⟨.int (bs.count b : Nat), H, I.tok _, ⟨s.toks, ?_⟩, ?_⟩
        · show Value.int ((its.toArray.toList.countP (eqkB b) : Nat) : Int) s.toks = Value.int ((bs.count b : Nat) : Int) s.toks
          rw [ec]
        · have q2 := q _ _ ws xs g (.int _) hl (by rw [boolsOf_eq eb]; exact ra)
          rw [ra.bools, upd_back hp] at q2
          exact q2
  · exact g.elim
theorem fm_indexB : MtR X "list.index" (rLm X.K mIndexB) := by
  intro pins s σ H x us v vs Q I rx rv ⟨Z, p, ws, xs, ds, Qf, ex, hp, hl, ra, hz, rd, g, q⟩
  unfold mIndexB at g
  split at g
  · rename_i bs b eb
    obtain ⟨gm, g⟩ := g
    cases rd with
    | cons r1 r2 =>
      cases r2
      cases r1
      have hj : bs.idxOf b < bs.length := List.idxOf_lt_length_of_mem gm
      have hx := boolsOf_eq eb
      have ra0 := ra
      rw [hx] at ra
      have hw := ra.bools
      have hp0 := hp
      rw [hw] at hp
      refine mt_index pins s σ H x _ v vs Q I rx rv ⟨p, bs.map V.bl, .bl b, bs.idxOf b, .bl b, ex, rfl, .inl (.inl hp), rfl, ?_, ?_, ?_, fun m z' hm e => ?_, ?_⟩
      · exact List.all_eq_true.mpr fun y hy => by
          obtain ⟨c, _, rfl⟩ := List.mem_map.mp hy
          rfl
      · rw [List.getElem?_map, List.getElem?_eq_getElem hj, List.getElem_idxOf]; rfl
      · exact beq_self_eq_true b
      · rw [List.getElem?_map] at e
        have hmb : m < bs.length := by omega
        rw [List.getElem?_eq_getElem hmb] at e
        cases e
        refine beq_eq_false_iff_ne.mpr fun e2 => ?_
        have := List.not_of_lt_findIdx (p := (· == b)) (xs := bs) (i := m) hm
        rw [e2] at this
        simp at this
      · have q2 := q _ _ ws xs g (.int _) hl ra0
        rw [upd_back hp0] at q2
        exact q2
  · exact g.elim
variable {L : Lv} {e : Expr} {st : Stmt}
end
end Hs
namespace Hs
open PySem PySem.Spec PyProof.Rows L2
theorem excB_ok {K : PySem.W.Frag} {D : Addr} (h : excB K D = true) : ExcC K D := by
  obtain ⟨h1, h⟩ := He.ba h
  obtain ⟨h2, h⟩ := He.ba h
  obtain ⟨h3, h⟩ := He.ba h
  obtain ⟨h4, h⟩ := He.ba h
  obtain ⟨h5, h⟩ := He.ba h
  obtain ⟨h6, h⟩ := He.ba h
  obtain ⟨h7, h8⟩ := He.ba h
  exact ⟨of_decide_eq_true h1, of_decide_eq_true h2, of_decide_eq_true h3, h4, of_decide_eq_true h5, of_decide_eq_true h6, of_decide_eq_true h7, of_decide_eq_true h8⟩
theorem lookup_mem {c : Str} {b : Bool} : ∀ {tb : List (Str × Bool)}, tb.lookup c = some b → (c, b) ∈ tb
  | [], h => by cases h
  | (d, e) :: tb, h => by
    rw [List.lookup_cons] at h
    cases q : (c == d) with
    | true =>
      rw [q] at h
      cases h
      rw [beq_iff_eq.mp q]
      exact List.mem_cons_self
    | false =>
      rw [q] at h
      exact List.mem_cons_of_mem _ (lookup_mem h)
theorem ExQ.row_ok {K : PySem.W.Frag} {cv : Value} {tb : List (Str × Bool)} (h : ExQ.row K cv tb = true) : ∀ c b, tb.lookup c = some b → ExcC K (He.ga K c) ∧ PySem.W.kitOne K (.ref (He.ga K c)) cv = some b := fun c b e => by
  obtain ⟨h1, h2⟩ := He.ba (List.all_eq_true.mp h (c, b) (lookup_mem e))
  exact ⟨excB_ok h1, of_decide_eq_true h2⟩
structure TxOkQ (fa : List He.Fa) (fn : List He.DefD) (exl : List ExQ) (K : PySem.W.Frag) (mg : Str → Option Value) (base : Heap) : Prop extends TxOk fa fn K mg base where
  q : (exl.all fun e => e.ok K) = true
section
variable {fa : List He.Fa} {fn : List He.DefD} {exl : List ExQ} {K : PySem.W.Frag} {mg : Str → Option Value} {base : Heap}
theorem TxOk.exm (T : TxOk fa fn K mg base) (i : Nat) {x y : Str} {b : Bool} (h : fa[i]? = some (.exm x y b) := by rfl) : PySem.W.exmOne K (.ref (He.ga K x)) (.ref (He.ga K y)) = some b := of_decide_eq_true (T.c.fact i h)
theorem TxOkQ.isOwn (T : TxOkQ fa fn exl K mg base) (i : Nat) {y : Str} {tb : List (Str × Bool)} (h : exl[i]? = some (.own y tb) := by rfl) : ∀ c b, tb.lookup c = some b → ExcC K (He.ga K c) ∧ PySem.W.kitOne K (.ref (He.ga K c)) (.ref (He.ga K y)) = some b :=
  ExQ.row_ok (List.all_eq_true.mp T.q _ (List.mem_of_getElem? h))
theorem TxOkQ.isTy (T : TxOkQ fa fn exl K mg base) (i : Nat) {y : String} {tb : List (Str × Bool)} (h : exl[i]? = some (.ty y tb) := by rfl) : ∀ c b, tb.lookup c = some b → ExcC K (He.ga K c) ∧ PySem.W.kitOne K (.ref (He.ga K c)) (.type y) = some b :=
  ExQ.row_ok (List.all_eq_true.mp T.q _ (List.mem_of_getElem? h))
end
theorem mem_cons' {α : Type} {p : α → Prop} {a : α} {l : List α} (h1 : p a) (h2 : ∀ x ∈ l, p x) : ∀ x ∈ a :: l, p x := List.forall_mem_cons.mpr ⟨h1, h2⟩
theorem mem_nil' {α : Type} {p : α → Prop} : ∀ x ∈ ([] : List α), p x := fun x h => nomatch h
theorem st_isX {tb : List (Str × Bool)} {c : Str} {b : Bool} {k : R → Prop} (e : tb.lookup c = some b) (h : k (.d (.bool b))) : bIsX tb (excD c) k := by
  show (match tb.lookup c with
    | some b => k (.d (.bool b))
    | none => False)
  rw [e]; exact h
theorem st_countB {bs : List Bool} {b : Bool} {kk : D → List D → Prop} (h : kk (.int (bs.count b : Nat)) (bs.map .bool)) : mCountB (bs.map .bool) [.bool b] kk := by
  unfold mCountB
  rw [boolsOf_map]
  exact h
theorem st_indexB {bs : List Bool} {b : Bool} {kk : D → List D → Prop} (m : b ∈ bs) (h : kk (.int (bs.idxOf b : Nat)) (bs.map .bool)) : mIndexB (bs.map .bool) [.bool b] kk := by
  unfold mIndexB
  rw [boolsOf_map]
  exact ⟨m, h⟩
theorem st_try {ns : List Str} {i : Nat} {body suite : FS} {E : FEnds} {s : S}
    (h : body ⟨E.nx, E.rt, E.bk, E.ct, fun n s1 => n ∈ ns ∧ suite ⟨fun s2 => E.nx (s2.set i .no), E.rt, fun s2 => E.bk (s2.set i .no), fun s2 => E.ct (s2.set i .no), fun _ _ => False⟩ (s1.set i (.d (excD n)))⟩ s) : fTry ns i body suite E s := h
end Hs
namespace Hs
open PySem PySem.Spec PyProof.Rows L2
def fEmD : FE := fun _ s Q => Q (.own (.dc [])) s
theorem st_emD {X : XF} {s : S} {Q : R → S → Prop} (h : Q (.own (.dc [])) s) : fEmD X s Q := h
end Hs
namespace Hs
open PySem PySem.Spec PyProof.Rows L2
end Hs
namespace Hs
open PySem PySem.Spec PyProof.Rows L2
def keyN : D → Option Key
  | .int i => some (.inl i)
  | .str x => some (.inr x)
  | _ => none
def keysN : List D → Option (List Key)
  | [] => some []
  | d :: r => match keyN d, keysN r with
    | some k, some ks => some (k :: ks)
    | _, _ => none
theorem keyN_keyD (k : Key) : keyN (keyD k) = some k := by cases k <;> rfl
theorem keysN_map : ∀ ks : List Key, keysN (ks.map keyD) = some ks
  | [] => rfl
  | k :: ks => by rw [List.map_cons, keysN, keyN_keyD, keysN_map ks]
def sameN (d : D) (k : Key) : Bool := decide (keyN d = some k)
def sameT (d : D) (k : List Key) : Bool := match d with
  | .tuple ds => decide (keysN ds = some k)
  | _ => false
theorem sameN_keyD (j k : Key) : sameN (keyD j) k = decide (j = k) := by
  unfold sameN
  rw [keyN_keyD]
  by_cases h : j = k
  · subst h; simp
  · rw [decide_eq_false h, decide_eq_false (fun e => h (Option.some.inj e))]
theorem sameT_keysD (j k : List Key) : sameT (keysD j) k = decide (j = k) := by
  unfold sameT keysD
  dsimp only
  rw [keysN_map]
  by_cases h : j = k
  · subst h; simp
  · rw [decide_eq_false h, decide_eq_false (fun e => h (Option.some.inj e))]
/-- what a dict holds -/
def dGet (kvs : List (D × D)) (k : D) (Q : Option D → Prop) : Prop := match kvs with
  | (.none, .none) :: r => match k with
    | .tuple ds => match keysN ds with
      | some ks => Q ((r.find? fun p => sameT p.1 ks).map (·.2))
      | none => False
    | _ => False
  | (.none, _) :: _ => False
  | kvs => match keyN k with
    | some k' => Q ((kvs.find? fun p => sameN p.1 k').map (·.2))
    | none => False
def putN (kvs : List (D × D)) (k : Key) (x : D) : List (D × D) :=
  if (kvs.any fun p => sameN p.1 k) = true then kvs.map (fun p => if sameN p.1 k = true then (p.1, x) else p) else kvs ++ [(keyD k, x)]
def putT (kvs : List (D × D)) (k : List Key) (x : D) : List (D × D) :=
  if (kvs.any fun p => sameT p.1 k) = true then kvs.map (fun p => if sameT p.1 k = true then (p.1, x) else p) else kvs ++ [(keysD k, x)]
def dPut (kvs : List (D × D)) (k x : D) (Q : List (D × D) → Prop) : Prop := match kvs with
  | (.none, .none) :: r => match k with
    | .tuple ds => match keysN ds with
      | some ks => r.length < sizeLine ∧ Q ((.none, .none) :: putT r ks x)
      | none => False
    | _ => False
  | (.none, _) :: _ => False
  | kvs => match keyN k with
    | some k' => kvs.length < sizeLine ∧ Q (putN kvs k' x)
    | none => False
section
variable {K : PySem.W.Frag} {Z H : Hp}
def OptR (K : PySem.W.Frag) (H : Hp) (v : Option V) (d : Option D) : Prop := match v, d with
  | none, none => True
  | some v, some d => Rp K H v d
  | _, _ => False
theorem RpK.get (k : Key) : ∀ {ks : List (Key × V)} {kvs : List (D × D)}, RpK K H ks kvs → OptR K H (valV ks k) ((kvs.find? fun p => sameN p.1 k).map (·.2))
  | _, _, .nil => True.intro
  | _, _, .cons (k := j) (ks := ks) h r => by
    rw [List.find?_cons]
    dsimp only
    rw [sameN_keyD]
    by_cases e : j = k
    · rw [decide_eq_true e, valV_pos (p := (j, _)) e]
      exact h
    · rw [decide_eq_false e, valV_neg (p := (j, _)) e]
      exact RpK.get k r
theorem RpT.get (k : List Key) : ∀ {ks : List (List Key × V)} {kvs : List (D × D)}, RpT K H ks kvs → OptR K H (valV ks k) ((kvs.find? fun p => sameT p.1 k).map (·.2))
  | _, _, .nil => True.intro
  | _, _, .cons (k := j) (ks := ks) h r => by
    rw [List.find?_cons]
    dsimp only
    rw [sameT_keysD]
    by_cases e : j = k
    · rw [decide_eq_true e, valV_pos (p := (j, _)) e]
      exact h
    · rw [decide_eq_false e, valV_neg (p := (j, _)) e]
      exact RpT.get k r
theorem RpK.any (k : Key) : ∀ {ks : List (Key × V)} {kvs : List (D × D)}, RpK K H ks kvs → (ks.any fun kv => decide (kv.1 = k)) = kvs.any fun p => sameN p.1 k
  | _, _, .nil => rfl
  | _, _, .cons (k := j) h r => by rw [List.any_cons, List.any_cons, RpK.any k r, sameN_keyD]
theorem RpT.any (k : List Key) : ∀ {ks : List (List Key × V)} {kvs : List (D × D)}, RpT K H ks kvs → (ks.any fun kv => decide (kv.1 = k)) = kvs.any fun p => sameT p.1 k
  | _, _, .nil => rfl
  | _, _, .cons (k := j) h r => by rw [List.any_cons, List.any_cons, RpT.any k r, sameT_keysD]
theorem RpK.repl (k : Key) {v : V} {x : D} (rv : Rp K H v x) : ∀ {ks : List (Key × V)} {kvs : List (D × D)}, RpK K H ks kvs → RpK K H (ks.map fun kv => if kv.1 = k then (kv.1, v) else kv) (kvs.map fun p => if sameN p.1 k = true then (p.1, x) else p)
  | _, _, .nil => .nil
  | _, _, .cons (k := j) h r => by
    rw [List.map_cons, List.map_cons]
    dsimp only
    rw [sameN_keyD]
    by_cases e : j = k
    · rw [if_pos e, if_pos (decide_eq_true e)]
      exact .cons rv (RpK.repl k rv r)
    · rw [if_neg e, if_neg (by simpa using e)]
      exact .cons h (RpK.repl k rv r)
theorem RpT.repl (k : List Key) {v : V} {x : D} (rv : Rp K H v x) : ∀ {ks : List (List Key × V)} {kvs : List (D × D)}, RpT K H ks kvs → RpT K H (ks.map fun kv => if kv.1 = k then (kv.1, v) else kv) (kvs.map fun p => if sameT p.1 k = true then (p.1, x) else p)
  | _, _, .nil => .nil
  | _, _, .cons (k := j) h r => by
    rw [List.map_cons, List.map_cons]
    dsimp only
    rw [sameT_keysD]
    by_cases e : j = k
    · rw [if_pos e, if_pos (decide_eq_true e)]
      exact .cons rv (RpT.repl k rv r)
    · rw [if_neg e, if_neg (by simpa using e)]
      exact .cons h (RpT.repl k rv r)
theorem RpK.snoc {k : Key} {v : V} {x : D} (rv : Rp K H v x) : ∀ {ks : List (Key × V)} {kvs : List (D × D)}, RpK K H ks kvs → RpK K H (ks ++ [(k, v)]) (kvs ++ [(keyD k, x)])
  | _, _, .nil => .cons rv .nil
  | _, _, .cons h r => .cons h (RpK.snoc rv r)
theorem RpT.snoc {k : List Key} {v : V} {x : D} (rv : Rp K H v x) : ∀ {ks : List (List Key × V)} {kvs : List (D × D)}, RpT K H ks kvs → RpT K H (ks ++ [(k, v)]) (kvs ++ [(keysD k, x)])
  | _, _, .nil => .cons rv .nil
  | _, _, .cons h r => .cons h (RpT.snoc rv r)
theorem RpK.put (k : Key) {v : V} {x : D} (rv : Rp K H v x) {ks : List (Key × V)} {kvs : List (D × D)} (r : RpK K H ks kvs) : RpK K H (putK ks k v) (putN kvs k x) := by
  unfold putK putN
  rw [r.any k]
  split
  · exact r.repl k rv
  · exact r.snoc rv
theorem RpT.put (k : List Key) {v : V} {x : D} (rv : Rp K H v x) {ks : List (List Key × V)} {kvs : List (D × D)} (r : RpT K H ks kvs) : RpT K H (putK ks k v) (putT kvs k x) := by
  unfold putK putT
  rw [r.any k]
  split
  · exact r.repl k rv
  · exact r.snoc rv
theorem RpK.length : ∀ {ks : List (Key × V)} {kvs : List (D × D)}, RpK K H ks kvs → ks.length = kvs.length
  | _, _, .nil => rfl
  | _, _, .cons _ r => congrArg (· + 1) (RpK.length r)
theorem RpT.length : ∀ {ks : List (List Key × V)} {kvs : List (D × D)}, RpT K H ks kvs → ks.length = kvs.length
  | _, _, .nil => rfl
  | _, _, .cons _ r => congrArg (· + 1) (RpT.length r)
theorem RpK.mark {ks : List (Key × V)} {x : D} {r : List (D × D)} (h : RpK K H ks ((.none, x) :: r)) : False := h.nolit
/-- a dict that is looked at -/
theorem RpV.dict {v : V} {kvs : List (D × D)} (r : RpV K Z H v (.dict kvs)) (e : Same Z H) : (∃ p ks, v = .ref p ∧ Rd H p (.dK ks) ∧ RpK K Z ks kvs) ∨ (∃ p ks kvs', v = .ref p ∧ kvs = (.none, .none) :: kvs' ∧ H p = some (.dT ks) ∧ RpT K Z ks kvs') ∨ ∃ x r, kvs = (.none, x) :: r ∧ x ≠ .none := by
  rcases r with r | ⟨p, vs, xs', rfl, e2, h, z, a⟩ | ⟨p, kvs', rfl, e2, h⟩
  · generalize e0 : (PyData.dict kvs) = d at r
    cases r with
    | dcK h a => cases e0; exact .inl ⟨_, _, rfl, same_rd e h, a⟩
    | dcT h a => cases e0; exact .inr (.inl ⟨_, _, _, rfl, rfl, e _ _ h, a⟩)
    | lit h z => cases e0; exact .inr (.inr ⟨_, _, rfl, fun z => nomatch z⟩)
    | exc h => cases e0; exact .inr (.inr ⟨_, _, rfl, fun z => nomatch z⟩)
    | obj h1 h2 a => cases e0; exact .inr (.inr ⟨_, _, rfl, fun z => nomatch z⟩)
    | _ => cases e0
  · cases e2
  · cases e2
    rcases h with ⟨ks, e1, r⟩ | ⟨ks, kvs', e0, e1, r⟩
    · exact .inl ⟨_, _, rfl, .inl e1, r⟩
    · exact .inr (.inl ⟨_, _, _, rfl, e0, e1, r⟩)
theorem RpV.key {v : V} {k : Key} (r : RpV K Z H v (keyD k)) : v = kV k := by
  cases k with
  | inl i => exact RpV.int r
  | inr x => exact RpV.str r
theorem RpAll.keys : ∀ {vs : List V} {ks : List Key}, RpAll K Z vs (ks.map keyD) → vs = ks.map kV
  | _, [], .nil => rfl
  | _, k :: ks, .cons h a => by
    rw [RpAll.keys a, RpV.key (H := Z) (.inl h)]; rfl
theorem RpV.keys {v : V} {ks : List Key} (r : RpV K Z H v (.tuple (ks.map keyD))) (e : Same Z H) : ∃ b, v = .ref b ∧ H b = some (.tup (ks.map kV)) := by
  have r := fop_add.RpV.tupZ r
  cases r with
  | tup h z a =>
    rw [a.keys] at h
    exact ⟨_, rfl, e _ _ h⟩
end
theorem OptR.isSome {K : PySem.W.Frag} {H : Hp} {o : Option V} {d : Option D} (r : OptR K H o d) : o.isSome = d.isSome := by
  cases o <;> cases d <;> first | rfl | exact r.elim
section
variable {X : Cx} {L : Lv} {e a b c : Expr} {es : List Expr} {fa fb fc fj fx : FE} {ft : FT} {fr : FA} {pos p : Pos}
/-- d[k], xs[k] -/
def ixD2 : V2 := fun d e Q => ixD d e Q ∨ ∃ kvs, d = .dict kvs ∧ dGet kvs e fun o => ∃ x, o = some x ∧ Q (.d x)
/-- k in d, k in xs -/
def cInK : V2 := fun d e Q => cIn d e Q ∨ ∃ kvs, e = .dict kvs ∧ dGet kvs d fun o => Q (.d (.bool o.isSome))
def cNotInK : V2 := fun d e Q => cNotIn d e Q ∨ ∃ kvs, e = .dict kvs ∧ dGet kvs d fun o => Q (.d (.bool (!o.isSome)))
def onDc (i : Nat) (s : S) (k : List (D × D) → Prop) : Prop := match s.getD i .no with
  | .dc kvs => k kvs
  | _ => False
/-- d[k] = x -/
def fSetD (i : Nat) (j a : FE) : FS := fun E s => a E.xx s fun r s1 => onDc i s1 fun _ => j E.xx s1 fun rj s2 => frzAll [r, rj] s2 fun ds s3 => match ds with
  | [d, k] => onDc i s3 fun kvs => dPut kvs k d fun kvs' => E.nx (s3.set i (.dc kvs'))
  | _ => False
variable {y : Str} {px : Pos}
/-- d.get(k, x) -/
def fDGet2 (i : Nat) (j x : FE) : FE := fun X s Q => onDc i s fun _ => j X s fun rj s1 => x X s1 fun rx s2 => frzAll [rj, rx] s2 fun ds s3 => match ds with
  | [k, d] => onDc i s3 fun kvs => dGet kvs k fun o => Q (.d (o.getD d)) s3
  | _ => False
theorem NewR.dc {K : PySem.W.Frag} {Z H : Hp} {p : Addr} {o : HO} {kvs : List (D × D)} (e : Same Z H) (hp : H p = none) (h : DcAt K Z (upd H p o) p kvs) : NewR K Z H Z (upd H p o) (.ref p) (.own (.dc kvs)) :=
  ⟨same_upd hp, Same.refl _, e.trans (same_upd hp), fun _ _ => rfl, [p], ⟨p, rfl, rfl, h⟩, by simp, fun a ha => by
    obtain rfl : a = p := by simpa using ha
    exact ⟨hp, e.free hp⟩⟩
def downD (hi : Int) (n : Nat) : List D := (List.range n).map fun (k : Nat) => PyData.int (hi - (k : Int))
def iRange3 (a : FA) : FI := fun X s Q => a X s fun rs s2 => match rs with
  | [.d (.int i), .d (.int j), .d (.int c)] => c = -1 ∧ lim62 i ∧ lim62 j ∧ Q (downD i (i - j).toNat) s2
  | _ => False
def fEmT : FE := fun _ s Q => Q (.own (.dc [(.none, .none)])) s
end
end Hs
namespace Hs
open PySem PySem.Spec PyProof.Rows L2
section
variable {K : PySem.W.Frag} {Z Z' Y Y' H H' : Hp} {σ σ' : St} {s s' : S}
theorem DcAt.notup {p : Addr} {kvs : List (D × D)} (h : DcAt K Z H p kvs) (vs : List V) : H p ≠ some (.tup vs) := by
  rcases h with ⟨ks, e1, r⟩ | ⟨ks, kvs', e0, e1, r⟩ <;> (rw [e1]; exact fun z => nomatch z)
theorem PartAt.notup {v : V} {w : PV} {F : List Addr} (h : PartAt K Z H v w F) (us : List V) : ∀ a ∈ F, H a ≠ some (.tup us) := by
  intro a ha
  cases w with
  | d x => rw [h.1] at ha; cases ha
  | l xs =>
    obtain ⟨p, vs, h1, h2, h3, h4, h5⟩ := h
    rw [h2] at ha
    obtain rfl : a = p := by simpa using ha
    rw [h3]; exact fun z => nomatch z
  | dc kvs =>
    obtain ⟨p, h1, h2, h3⟩ := h
    rw [h2] at ha
    obtain rfl : a = p := by simpa using ha
    exact h3.notup us
theorem TpAt.notup {vs : List V} {ws : List PV} {F : List Addr} (h : TpAt K Z H vs ws F) (us : List V) : ∀ a ∈ F, H a ≠ some (.tup us) := by
  induction h with
  | nil => intro a ha; cases ha
  | cons h r ih =>
    intro a ha
    rcases List.mem_append.mp ha with ha | ha
    · exact h.notup us a ha
    · exact ih a ha
theorem SlotAt.notup {v : Option V} {sv : SV} {F : List Addr} (h : SlotAt K Z H v sv F) (us : List V) : ∀ a ∈ F, H a ≠ some (.tup us) := by
  have LLt : ∀ {qs : List Addr} {xss : List (List D)}, LL K Z H qs xss → ∀ a ∈ qs, H a ≠ some (.tup us) := by
    intro qs xss r
    induction r with
    | nil => intro a ha; cases ha
    | cons h z a r ih =>
      intro b hb
      rcases List.mem_cons.mp hb with rfl | hb
      · rw [h]; exact fun z => nomatch z
      · exact ih b hb
  intro a ha
  cases sv with
  | no => rw [show F = [] from h] at ha; cases ha
  | d x => rw [h.1] at ha; cases ha
  | l xs =>
    obtain ⟨p, vs, h1, h2, h3, h4, h5⟩ := h
    rw [h2] at ha
    obtain rfl : a = p := by simpa using ha
    rw [h3]; exact fun z => nomatch z
  | ll xss =>
    obtain ⟨p, qs, h1, h2, h3, h4, h5⟩ := h
    rw [h2] at ha
    rcases List.mem_cons.mp ha with rfl | ha
    · rw [h3]; exact fun z => nomatch z
    · exact LLt h5 a ha
  | dc kvs =>
    obtain ⟨p, h1, h2, h3⟩ := h
    rw [h2] at ha
    obtain rfl : a = p := by simpa using ha
    exact h3.notup us
  | ob c fs =>
    obtain ⟨p, dx, vs, G, h1, h2, h3, h4, h5⟩ := h
    rw [h2] at ha
    rcases List.mem_cons.mp ha with rfl | ha
    · rw [h3]; exact fun z => nomatch z
    · rcases List.mem_cons.mp ha with rfl | ha
      · rw [h4]; exact fun z => nomatch z
      · exact h5.notup us a ha
  | tp ws =>
    obtain ⟨p, vs, h1, h3, h4, h5⟩ := h
    exact h5.notup us a ha
def frz1 (w : SV) : SV := match asD w with
  | some x => .d x
  | none => .no
def frzS (s : S) : S := s.map frz1
theorem frzS_get (s : S) (i : Nat) : (frzS s).getD i .no = frz1 (s.getD i .no) := by
  unfold frzS
  rw [List.getD_eq_getElem?_getD, List.getD_eq_getElem?_getD, List.getElem?_map]
  cases s[i]? <;> rfl
theorem Rel.frzS (r : Rel K Z Y H σ s) : ∃ (F : Nat → List Addr) (Z' : Hp), OwnF K Z Y H σ s F ∧ Same Z Z' ∧ (∀ i, ∀ a ∈ F i, Z' a = H a) ∧ Rel K Z' Y H σ (Hs.frzS s) := by
  classical
  obtain ⟨F, o⟩ := r.own
  let Z' : Hp := fun a => if ∃ i, a ∈ F i then H a else Z a
  have hz : Same Z Z' := fun a q e => by
    show (if _ then _ else _) = _
    rw [if_neg (fun ⟨i, h⟩ => by rw [(o.fr i a h).1] at e; cases e)]
    exact e
  have zh : Same Z' H := fun a q e => by
    have e : (if ∃ i, a ∈ F i then H a else Z a) = some q := e
    split at e
    · exact e
    · exact r.zh a q e
  refine ⟨F, Z', o, hz, fun i a ha => if_pos ⟨i, ha⟩, zh, r.yh, fun a ha => ?_, r.yt, by unfold Hs.frzS; rw [List.length_map]; exact r.len, fun _ => [], fun i => ?_, fun _ => .nil, fun _ _ _ ha => (nomatch ha), fun _ _ ha => (nomatch ha)⟩
  · have e : (if ∃ i, a ∈ F i then H a else Z a) ≠ none := ha
    split at e
    · rename_i hc
      obtain ⟨i, hi⟩ := hc
      exact (o.fr i a hi).2
    · exact r.zy a e
  · rw [frzS_get]
    unfold frz1
    cases e : asD (s.getD i .no) with
    | none => exact rfl
    | some x =>
      have q' : SlotAt K Z' Z' (σ.getD i none) (s.getD i .no) (F i) := (o.at_ i).mono hz fun a ha ob e => (if_pos ⟨i, ha⟩ : (if ∃ i, a ∈ F i then H a else Z a) = H a).trans e
      obtain ⟨u, h1, h2⟩ := q'.asD (Same.refl _) e
      exact ⟨rfl, u, h1, h2⟩
/-- values without lists and dicts -/
def flatD : D → Bool
  | .none | .bool _ | .int _ | .str _ => true
  | .tuple ds => flatL ds
  | _ => false
where flatL : List D → Bool
  | [] => true
  | d :: ds => flatD d && flatL ds
mutual
theorem Rp.flat (h : ∀ a vs, Z a = some (.tup vs) → Z' a = some (.tup vs)) : ∀ (d : PyData) (v : V), flatD d = true → Rp K Z v d → Rp K Z' v d
  | .none, _, _, .non => .non
  | .bool _, _, _, .bl b => .bl b
  | .int _, _, _, .int i => .int i
  | .str _, _, _, .str x => .str x
  | .list ds, _, f, _ => by simp [flatD] at f
  | .tuple ds, _, f, .tup q z a => .tup (h _ _ q) z (RpAll.flat h ds _ (by simpa [flatD] using f) a)
  | .dict _, _, f, _ => by simp [flatD] at f
theorem RpAll.flat (h : ∀ a vs, Z a = some (.tup vs) → Z' a = some (.tup vs)) : ∀ (ds : List PyData) (vs : List V), flatD.flatL ds = true → RpAll K Z vs ds → RpAll K Z' vs ds
  | [], _, _, .nil => .nil
  | d :: ds, _, f, .cons r a => by
    have f' : flatD d = true ∧ flatD.flatL ds = true := by simpa [flatD.flatL] using f
    exact .cons (Rp.flat h d _ f'.1 r) (RpAll.flat h ds _ f'.2 a)
end
/-- what comes and holds nothing of what was looked at -/
def flatR (r : R) (k : Prop) : Prop := match r with
  | .d x => flatD x = true ∧ k
  | .own (.l xs) => flatD.flatL xs = true ∧ k
  | _ => False
/-- an expression that only looks at what the slots hold -/
def fBor (e : FE) : FE := fun _ s Q => e (fun _ _ => False) (frzS s) fun r _ => flatR r (Q r s)
def fBorT (t : FT) : FT := fun _ s Q => t (fun _ _ => False) (frzS s) fun b _ => Q b s
/-- behind it -/
theorem Rel.free (r : Rel K Z Y H σ s) {F : Nat → List Addr} {Z1 Z2 : Hp} (o : OwnF K Z Y H σ s F) (hz1 : Same Z Z1) (h1 : ∀ i, ∀ a ∈ F i, Z1 a = H a) (hz2 : Same Z1 Z2) (zh : Same Z2 H') (yh : Same Y H') (zy : ∀ a, Z2 a ≠ none → Y a = none) :
    ∃ Z3, Same Z Z3 ∧ Same Z3 Z2 ∧ (∀ a vs, Z2 a = some (.tup vs) → Z3 a = some (.tup vs)) ∧ OwnF K Z3 Y H' σ s F ∧ (∀ i, ∀ a ∈ F i, Z2 a ≠ none) ∧ (∀ i, ∀ a ∈ F i, Z3 a = none) ∧ Rel K Z3 Y H' σ s := by
  classical
  let Z3 : Hp := fun a => if ∃ i, a ∈ F i then none else Z2 a
  have s3 : Same Z3 Z2 := fun a q e => by
    have e : (if ∃ i, a ∈ F i then none else Z2 a) = some q := e
    split at e
    · cases e
    · exact e
  have in2 : ∀ i, ∀ a ∈ F i, ∀ ob, H a = some ob → Z2 a = some ob := fun i a ha ob e => hz2 a ob ((h1 i a ha).trans e)
  have s03 : Same Z Z3 := fun a q e => by
    show (if _ then _ else _) = _
    rw [if_neg (fun ⟨i, h⟩ => by rw [(o.fr i a h).1] at e; cases e)]
    exact hz2 a q (hz1 a q e)
  have n3 : ∀ i, ∀ a ∈ F i, Z3 a = none := fun i a ha => if_pos ⟨i, ha⟩
  have oo : OwnF K Z3 Y H' σ s F := ⟨fun i => (o.at_ i).mono s03 fun a ha ob e => zh a ob (in2 i a ha ob e), o.nd, o.dj, fun i a ha => ⟨n3 i a ha, (o.fr i a ha).2⟩⟩
  refine ⟨Z3, s03, s3, fun a vs e => ?_, oo, fun i a ha => ?_, n3, s3.trans zh, yh, fun a ha => ?_, r.yt, r.len, F, oo⟩
  · show (if _ then _ else _) = _
    rw [if_neg]
    · exact e
    · rintro ⟨i, hi⟩
      cases eh : H a with
      | none => exact (o.at_ i).there a hi eh
      | some ob =>
        have := in2 i a hi ob eh
        rw [e] at this
        cases this
        exact (o.at_ i).notup vs a hi eh
  · cases eh : H a with
    | none => exact ((o.at_ i).there a ha eh).elim
    | some ob => rw [in2 i a ha ob eh]; exact fun z => nomatch z
  · cases e : Z3 a with
    | none => exact (ha e).elim
    | some q => exact zy a (by rw [s3 a q e]; exact fun z => nomatch z)
end
section
variable {X : Cx} {L : Lv} {e a b c : Expr} {es : List Expr} {fa fb fc fj fx : FE} {ft : FT} {fr : FA} {pos p : Pos}
theorem pf_bor (he : PF X L e fa) : PF X L e (fBor fa) := PE_imp he fun σ H Q ⟨Z, Y, s, Xf, Qf, r, k, xo, h, q⟩ => by
  obtain ⟨F, Z1, o, hz1, h1, r1⟩ := r.frzS
  refine ⟨Z1, Y, frzS s, _, _, r1, k, fun _ _ _ _ _ _ _ _ _ h _ => h.elim, h, fun v H' Z2 rr s' hz2 rx hq => ?_⟩
  obtain ⟨Z3, s03, s32, ht, oo, in2, n3, rl⟩ := r.free o hz1 h1 hz2 rx.rel0.zh rx.rel0.yh rx.rel0.zy
  cases rr with
  | d x => exact q v H' Z3 _ s s03 (.d rl (Rp.flat ht x v hq.1 rx.vd)) hq.2
  | top i => exact hq.elim
  | own w =>
    cases w with
    | l xs =>
      refine q v H' Z3 _ s s03 (.own rl.len ?_) hq.2
      obtain ⟨G, oG⟩ := rx.rel.own
      have sl := oG.at_ σ.length
      rw [getD_app_ge (Nat.le_refl _), Nat.sub_self, getD_app_ge (by have := rx.l1; omega), ← rx.l1, Nat.sub_self] at sl
      obtain ⟨p, vs, e1, e2, e3, e4, e5⟩ := sl
      cases e1
      have fp := oG.fr σ.length p (by rw [e2]; exact List.mem_cons_self)
      have hn : ∀ i, p ∉ F i := fun i hi => in2 i p hi fp.1
      have p3 : Z3 p = none := by
        cases ez : Z3 p with
        | none => rfl
        | some ob => rw [s32 p ob ez] at fp; cases fp.1
      refine ⟨rl.zh, rl.yh, rl.zy, rl.yt, by rw [List.length_append, List.length_append, rl.len]; rfl, fun i => if i = σ.length then [p] else F i, fun i => ?_, fun i => ?_, fun i j a ha ha' => ?_, fun i a ha => ?_⟩
      · have hl := rl.len
        by_cases hi : i = σ.length
        · rw [if_pos hi, getD_app_ge (by omega), getD_app_ge (by omega), hi, Nat.sub_self, ← hl, Nat.sub_self]
          exact ⟨p, vs, rfl, rfl, e3, e4, RpAll.flat ht xs vs hq.1 e5⟩
        · rw [if_neg hi]
          have q := oo.at_ i
          by_cases hlt : i < σ.length
          · rw [getD_app_lt hlt, getD_app_lt (by omega)]
            exact q
          · rw [getD_out (l := s ++ [_]) (by rw [List.length_append]; show s.length + 1 ≤ i; omega)]
            rw [getD_out (l := s) (by omega)] at q
            exact q
      · by_cases hi : i = σ.length
        · rw [if_pos hi]; simp
        · rw [if_neg hi]; exact oo.nd i
      · by_cases hi : i = σ.length
        · rw [if_pos hi] at ha
          obtain rfl : a = p := by simpa using ha
          by_cases hj : j = σ.length
          · rw [hi, hj]
          · rw [if_neg hj] at ha'; exact (hn j ha').elim
        · rw [if_neg hi] at ha
          by_cases hj : j = σ.length
          · rw [if_pos hj] at ha'
            obtain rfl : a = p := by simpa using ha'
            exact (hn i ha).elim
          · rw [if_neg hj] at ha'; exact oo.dj i j a ha ha'
      · by_cases hi : i = σ.length
        · rw [if_pos hi] at ha
          obtain rfl : a = p := by simpa using ha
          exact ⟨p3, fp.2⟩
        · rw [if_neg hi] at ha; exact oo.fr i a ha
    | _ => exact hq.elim
def fDisp1 (k v : FE) : FE := fun X s Q => k X s fun rk s1 => v X s1 fun rv s2 => frzAll [rk, rv] s2 fun ds s3 => match ds with
  | [kd, d] => match keyN kd with
    | some k' => Q (.own (.dc [(keyD k', d)])) s3
    | none => False
  | _ => False
end
def PV.sv : PV → SV
  | .d x => .d x
  | .l xs => .l xs
  | .dc kvs => .dc kvs
def toPs : List SV → (List PV → Prop) → Prop
  | [], k => k []
  | .d x :: r, k => toPs r fun ws => k (.d x :: ws)
  | .l xs :: r, k => toPs r fun ws => k (.l xs :: ws)
  | .dc kvs :: r, k => toPs r fun ws => k (.dc kvs :: ws)
  | _ :: _, _ => False
section
variable {K : PySem.W.Frag} {Z Z' Y Y' H H' : Hp} {σ σ' : St} {s s' : S}
theorem part_at {v : V} {w : PV} {F : List Addr} (h : SlotAt K Z H (some v) w.sv F) : PartAt K Z H v w F := by
  cases w with
  | d x =>
    obtain ⟨h1, u, h2, h3⟩ := h
    cases h2
    exact ⟨h1, h3⟩
  | l xs =>
    obtain ⟨p, vs, h1, h2, h3, h4, h5⟩ := h
    cases h1
    exact ⟨p, vs, rfl, h2, h3, h4, h5⟩
  | dc kvs =>
    obtain ⟨p, h1, h2, h3⟩ := h
    cases h1
    exact ⟨p, rfl, h2, h3⟩
end
def fTupO (a : FA) : FE := fun X s Q => a X s fun rs s1 => bindA (List.replicate rs.length true) rs s1 fun svs s2 => toPs svs fun ws => Q (.own (.tp ws)) s2
section
variable {X : Cx} {L : Lv} {e a b c : Expr} {es : List Expr} {fa fb fc fj fx : FE} {ft : FT} {fr : FA} {pos p : Pos}
section
variable {K : PySem.W.Frag} {Z Z' Y Y' H H' : Hp} {σ σ' : St} {s s' : S}
theorem PartAt.other {v : V} {w : PV} {F : List Addr} {q : Addr} {o : HO} (h : PartAt K Z H v w F) (hq : q ∉ F) : PartAt K Z (upd H q o) v w F := h.mono (Same.refl _) fun a ha ob e => by
  rw [upd_ne (fun e2 => hq (by rw [← e2]; exact ha))]; exact e
theorem TpAt.other {vs : List V} {ws : List PV} {F : List Addr} {q : Addr} {o : HO} (h : TpAt K Z H vs ws F) (hq : q ∉ F) : TpAt K Z (upd H q o) vs ws F := h.mono (Same.refl _) fun a ha ob e => by
  rw [upd_ne (fun e2 => hq (by rw [← e2]; exact ha))]; exact e
end
def onP (i k : Nat) (s : S) (kk : List PV → List D → Prop) : Prop := match s.getD i .no with
  | .tp ws => match ws[k]? with
    | some (.l xs) => kk ws xs
    | _ => False
  | _ => False
/-- t[k].m(..) -/
def fLmP (i k : Nat) (g : LM) (a : FA) : FE := fun X s Q => onP i k s fun _ _ => a X s fun rs s1 => frzAll rs s1 fun ds s2 => onP i k s2 fun ws xs => g xs ds fun d xs' => Q (.d d) (s2.set i (.tp (ws.set k (.l xs'))))
variable {nm : Str} {apos cpos : Pos} {y : Str} {px p1 p2 : Pos} {j : Nat} {id : String}
end
end Hs
namespace Hs
open PySem
class Get (s : S) (i : Nat) (v : outParam SV) : Prop where e : s.getD i .no = v
class Put (s : S) (i : Nat) (v : SV) (s' : outParam S) : Prop where e : s.set i v = s'
class Pad (s : S) (n : Nat) (s' : outParam S) : Prop where e : s ++ List.replicate n .no = s'
instance getZ {v : SV} {s : S} : Get (v :: s) 0 v := ⟨rfl⟩
instance getS {v w : SV} {s : S} {i : Nat} [h : Get s i v] : Get (w :: s) (i + 1) v := ⟨h.e⟩
instance putZ {v w : SV} {s : S} : Put (w :: s) 0 v (v :: s) := ⟨rfl⟩
instance putS {v w : SV} {s s' : S} {i : Nat} [h : Put s i v s'] : Put (w :: s) (i + 1) v (w :: s') := ⟨by rw [List.set_cons_succ, h.e]⟩
instance padZ : Pad [] 0 [] := ⟨rfl⟩
instance padS {s : S} {n : Nat} [h : Pad [] n s] : Pad [] (n + 1) (.no :: s) := ⟨by rw [← h.e]; rfl⟩
instance padC {v : SV} {s s' : S} {n : Nat} [h : Pad s n s'] : Pad (v :: s) n (v :: s') := ⟨by rw [← h.e]; rfl⟩
section
variable {s' s'' : S}
variable {nx bk ct : S → Prop} {rt : R → S → Prop} {X xx : XF} {s : S} {a b c e : FE} {t u : FT} {f1 f2 : FS} {Q : R → S → Prop} {i j : Nat} {x y : D} {v : SV} {g g' : V2} {r : R} {rs : List R} {A B : Prop}
theorem st_seq (h : f1 ⟨fun s1 => f2 ⟨nx, rt, bk, ct, xx⟩ s1, rt, bk, ct, xx⟩ s) : fSeq f1 f2 ⟨nx, rt, bk, ct, xx⟩ s := h
/-- the ways through the first part meet -/
theorem st_join (P : S → Prop) (hrest : ∀ s', P s' → f2 ⟨nx, rt, bk, ct, xx⟩ s') (h : ∀ k : S → Prop, (∀ s', P s' → k s') → f1 ⟨k, rt, bk, ct, xx⟩ s) : fSeq f1 f2 ⟨nx, rt, bk, ct, xx⟩ s := h _ hrest
theorem st_asg (h : a xx s fun r s1 => putR i r s1 nx) : fAsg i a ⟨nx, rt, bk, ct, xx⟩ s := h
theorem st_next (h : nx s) : fNext ⟨nx, rt, bk, ct, xx⟩ s := h
theorem st_if (h : t xx s fun c s1 => if c = true then f1 ⟨nx, rt, bk, ct, xx⟩ s1 else f2 ⟨nx, rt, bk, ct, xx⟩ s1) : fIfS t f1 f2 ⟨nx, rt, bk, ct, xx⟩ s := h
theorem st_ret (h : a xx s rt) : fRet a ⟨nx, rt, bk, ct, xx⟩ s := h
theorem st_retN (h : rt (.d .none) s) : fRetN ⟨nx, rt, bk, ct, xx⟩ s := h
theorem st_break (h : bk s) : fBreak ⟨nx, rt, bk, ct, xx⟩ s := h
theorem st_drop (h : a xx s fun _ s1 => nx s1) : fDrop a ⟨nx, rt, bk, ct, xx⟩ s := h
theorem st_raise {n : Str} (h : xx n s) : fRaise n ⟨nx, rt, bk, ct, xx⟩ s := h
theorem st_put_d {k : S → Prop} [p : Put s i (.d x) s'] (h : k s') : putR i (.d x) s k := by rw [← p.e] at h; exact h
theorem st_put_own {k : S → Prop} [p : Put s i v s'] (h : k s') : putR i (.own v) s k := by rw [← p.e] at h; exact h
theorem st_put_top {k : S → Prop} (e : asD (s.getD j .no) = some x) (h : k ((s.set j (.d x)).set i (.d x))) : putR i (.top j) s k := by unfold putR; dsimp only; rw [e]; exact h
theorem st_put_top_l {k : S → Prop} {xs : List D} [g : Get s j (.l xs)] [p : Put s j (.d (.list xs)) s'] [p2 : Put s' i (.d (.list xs)) s''] (h : k s'') : putR i (.top j) s k :=
  st_put_top (x := .list xs) (by rw [g.e]; rfl) (by rw [p.e, p2.e]; exact h)
theorem st_put_top_ll {k : S → Prop} {xs : List (List D)} [g : Get s j (.ll xs)] [p : Put s j (.d (.list (xs.map .list))) s'] [p2 : Put s' i (.d (.list (xs.map .list))) s''] (h : k s'') : putR i (.top j) s k :=
  st_put_top (x := .list (xs.map .list)) (by rw [g.e]; rfl) (by rw [p.e, p2.e]; exact h)
theorem st_put_top_dc {k : S → Prop} {xs : List (D × D)} [g : Get s j (.dc xs)] [p : Put s j (.d (.dict xs)) s'] [p2 : Put s' i (.d (.dict xs)) s''] (h : k s'') : putR i (.top j) s k :=
  st_put_top (x := .dict xs) (by rw [g.e]; rfl) (by rw [p.e, p2.e]; exact h)
theorem st_unp {fg : FG} (h : a xx s fun r s1 => frz r s1 fun d s2 => fg d s2 nx) : fUnp fg a ⟨nx, rt, bk, ct, xx⟩ s := h
theorem st_par {fa : FA} (h : fa xx s fun rs s2 => match rs with | [r1, r2] => frz r1 s2 fun d1 s3 => frz r2 s3 fun d2 s4 => putR i (.d d1) s4 fun s5 => putR j (.d d2) s5 nx | _ => False) : fPar i j fa ⟨nx, rt, bk, ct, xx⟩ s := h
theorem st_setIx (h : a xx s fun r s1 => onL i s1 fun _ => b xx s1 fun rj s2 => match rj with
  | .d (.int k) => frz r s2 fun d s3 => onL i s3 fun xs => 0 ≤ k ∧ k.toNat < xs.length ∧ putR i (.own (.l (xs.set k.toNat d))) s3 nx
  | _ => False) : fSetIx i b a ⟨nx, rt, bk, ct, xx⟩ s := h
theorem st_onL {k : List D → Prop} {xs : List D} [e : Get s i (.l xs)] (h : k xs) : onL i s k := by unfold onL; rw [e.e]; exact h
/-- slots forgotten -/
def wipeK (s : S) (wp : List Nat) (k : S → Prop) : Prop := k (wipeS s wp)
theorem st_wipe_nil {k : S → Prop} (h : k s) : wipeK s [] k := h
theorem st_wipe_cons {k : S → Prop} {is : List Nat} [p : Put s i .no s'] (h : wipeK s' is k) : wipeK s (i :: is) k := by rw [← p.e] at h; exact h
theorem st_for {it : FI} {fg : FG} {wp : List Nat} (h : it xx s fun xs s1 => wipeK s1 wp fun s2 => fLoop fg wp f1 ⟨nx, rt, bk, ct, xx⟩ xs s2) : fFor it fg wp f1 ⟨nx, rt, bk, ct, xx⟩ s := h
theorem st_var_d [e : Get s i (.d x)] (h : Q (.d x) s) : fVar i X s Q := by unfold fVar; rw [e.e]; exact h
theorem st_var_l {xs : List D} [e : Get s i (.l xs)] (h : Q (.top i) s) : fVar i X s Q := by unfold fVar; rw [e.e]; exact h
theorem st_var_ll {xs : List (List D)} [e : Get s i (.ll xs)] (h : Q (.top i) s) : fVar i X s Q := by unfold fVar; rw [e.e]; exact h
theorem st_var_dc {xs : List (D × D)} [e : Get s i (.dc xs)] (h : Q (.top i) s) : fVar i X s Q := by unfold fVar; rw [e.e]; exact h
theorem st_C (h : Q (.d x) s) : fC x X s Q := h
theorem st_nil {k : List R → S → Prop} (h : k [] s) : fNil X s k := h
theorem st_cons {k : List R → S → Prop} {fr : FA} (h : a X s fun x s1 => fr X s1 fun xs s2 => k (x :: xs) s2) : fCons a fr X s k := h
theorem st_tup {fr : FA} (h : fr X s fun rs s1 => frzAll rs s1 fun ds s2 => Q (.d (.tuple ds)) s2) : fTup fr X s Q := h
theorem st_lst {fr : FA} (h : fr X s fun rs s1 => frzAll rs s1 fun ds s2 => Q (.own (.l ds)) s2) : fLst fr X s Q := h
theorem st_op (h : a X s fun r1 s1 => b X s1 fun r2 s2 => look s2 r1 fun d => look s2 r2 fun e => g d e fun r => Q r s2) : fOp g a b X s Q := h
theorem st_un {g1 : V1} (h : a X s fun r1 s1 => look s1 r1 fun d => g1 d fun r => Q r s1) : fUn g1 a X s Q := h
theorem st_blt {gn : VN} {fr : FA} (h : fr X s fun rs s1 => fBlt.lookAll s1 rs fun ds => gn ds fun r => Q r s1) : fBlt gn fr X s Q := h
theorem st_lookAll_nil {k : List D → Prop} (h : k []) : fBlt.lookAll s [] k := h
theorem st_lookAll_cons {k : List D → Prop} (h : look s r fun d => fBlt.lookAll s rs fun ds => k (d :: ds)) : fBlt.lookAll s (r :: rs) k := h
theorem st_andV (h : a X s fun r s1 => isB r fun c => if c = true then b X s1 Q else Q (.d (.bool false)) s1) : fAndV a b X s Q := h
theorem st_orV (h : a X s fun r s1 => isB r fun c => if c = true then Q (.d (.bool true)) s1 else b X s1 Q) : fOrV a b X s Q := h
theorem st_notV (h : a X s fun r s1 => isB r fun c => Q (.d (.bool (!c))) s1) : fNotV a X s Q := h
theorem st_ifE (h : t X s fun c s1 => if c = true then a X s1 Q else b X s1 Q) : fIfE t a b X s Q := h
theorem st_chain (h : a X s fun r1 s1 => b X s1 fun r2 s2 => look s2 r1 fun d => look s2 r2 fun e => g d e fun r => isB r fun k =>
  if k = true then c X s2 fun r3 s3 => look s3 r2 fun e' => look s3 r3 fun h => g' e' h fun z => Q z s3 else Q (.d (.bool false)) s2) : fChain g g' a b c X s Q := h
theorem st_sl {gs : D → Option Int → Option Int → (R → Prop) → Prop} {lo hi : FO} (h : a X s fun r s1 => lo X s1 fun l s2 => hi X s2 fun h s3 => look s3 r fun d => gs d l h fun z => Q z s3) : fSl gs a lo hi X s Q := h
theorem st_noPart {k : Option Int → S → Prop} (h : k none s) : fNoPart X s k := h
theorem st_part {k : Option Int → S → Prop} (h : a X s fun r s1 => match r with | .d (.int i) => k (some i) s1 | _ => False) : fPart a X s k := h
/-- what was lent comes back -/
def putK (ms : List Bool) (rs : List R) (fin s : S) (k : S → Prop) : Prop := k (putB ms rs fin s)
theorem st_putK_nil {fin : S} {k : S → Prop} (h : k s) : putK [] [] fin s k := by
  unfold putK putB; exact h
theorem st_putK_t {ms : List Bool} {fin : S} {f : SV} {k : S → Prop} [p : Put s i f s'] (h : putK ms rs fin s' k) : putK (true :: ms) (.top i :: rs) (f :: fin) s k := by
  rw [← p.e] at h; exact h
theorem st_putK_td {ms : List Bool} {fin : S} {f : SV} {k : S → Prop} (h : putK ms rs fin s k) : putK (true :: ms) (.d x :: rs) (f :: fin) s k := h
theorem st_putK_to {ms : List Bool} {fin : S} {f : SV} {k : S → Prop} (h : putK ms rs fin s k) : putK (true :: ms) (.own v :: rs) (f :: fin) s k := h
theorem st_putK_f {ms : List Bool} {fin : S} {f : SV} {k : S → Prop} (h : putK ms rs fin s k) : putK (false :: ms) (r :: rs) (f :: fin) s k := h
theorem st_call {sem : FSem} {ms : List Bool} {fr : FA} (h : fr X s fun rs s1 => bindA ms rs s1 fun svs s2 => sem svs (fun n fin => X n (putB ms rs fin s2)) fun r fin => putK ms rs fin s2 fun s3 => Q r s3) : fCall sem ms fr X s Q := h
theorem putB_none : ∀ {ms : List Bool} {rs : List R} {fin s : S}, ms.all (!·) = true → putB ms rs fin s = s
  | [], _, _, _, _ => by unfold putB; rfl
  | true :: _, _, _, _, h => by simp at h
  | false :: ms, [], _, _, _ => by unfold putB; rfl
  | false :: ms, _ :: _, [], _, _ => by unfold putB; rfl
  | false :: ms, _ :: rs, _ :: fin, s, h => by
    unfold putB
    exact putB_none (by simpa using h)
theorem st_callF {sem : FSem} {ms : List Bool} {fr : FA} (e : ms.all (!·) = true) (h : fr X s fun rs s1 => bindA ms rs s1 fun svs s2 => sem svs (fun n _ => X n s2) fun r _ => Q r s2) : fCall sem ms fr X s Q := by
  have q : ∀ (rs : List R) (s2 : S), (fun n fin => X n (putB ms rs fin s2)) = fun (n : Str) (fin : S) => X n s2 := fun rs s2 => by
    funext n fin; rw [putB_none e]
  have q2 : ∀ (rs : List R) (s2 : S), (fun r fin => Q r (putB ms rs fin s2)) = fun (r : R) (fin : S) => Q r s2 := fun rs s2 => by
    funext n fin; rw [putB_none e]
  unfold fCall
  simp only [q, q2]
  exact h
theorem st_lc {it : FI} {fg : FG} {wp : List Nat} (h : it X s fun xs s1 => xs.length ≤ sizeLine ∧ wipeK s1 wp fun s2 => fComp (fun _ _ => False) fg wp t e Q xs [] s2) : fLc it fg wp t e X s Q := h
theorem st_lm {lm : LM} {fr : FA} (h : onL i s fun _ => fr X s fun rs s1 => frzAll rs s1 fun ds s2 => onL i s2 fun xs => lm xs ds fun d xs' => putR i (.own (.l xs')) s2 fun s3 => Q (.d d) s3) : fLm i lm fr X s Q := h
variable {q : Bool → S → Prop}
theorem st_B (h : a X s fun r s1 => isB r fun c => q c s1) : fB a X s q := h
theorem st_and (h : t X s fun c s1 => if c = true then u X s1 q else q false s1) : fAnd t u X s q := h
theorem st_or (h : t X s fun c s1 => if c = true then q true s1 else u X s1 q) : fOr t u X s q := h
theorem st_not (h : t X s fun c s1 => q (!c) s1) : fNot t X s q := h
theorem st_yes (h : q true s) : fYes X s q := h
theorem st_isB {k : Bool → Prop} {z : Bool} (h : k z) : isB (.d (.bool z)) k := h
theorem st_t (h : A) : if true = true then A else B := by simpa using h
theorem st_f (h : B) : if false = true then A else B := by simpa using h
theorem st_nt (h : B) : if (!true) = true then A else B := by simpa using h
theorem st_nf (h : A) : if (!false) = true then A else B := by simpa using h
theorem st_ite {z : Bool} (h1 : z = true → A) (h2 : z = false → B) : if z = true then A else B := by
  cases z
  · simpa using h2 rfl
  · simpa using h1 rfl
theorem st_iteT {z : Bool} (e : z = true) (h : A) : if z = true then A else B := by rw [if_pos e]; exact h
theorem st_iteF {z : Bool} (e : z = false) (h : B) : if z = true then A else B := by rw [if_neg (by simp [e])]; exact h
theorem st_look_d {k : D → Prop} (h : k x) : look s (.d x) k := h
theorem st_look_own {k : D → Prop} {xs : List D} (h : k (.list xs)) : look s (.own (.l xs)) k := h
theorem st_look_own_dc {k : D → Prop} {xs : List (D × D)} (h : k (.dict xs)) : look s (.own (.dc xs)) k := h
theorem st_look_top {k : D → Prop} {xs : List D} [e : Get s i (.l xs)] (h : k (.list xs)) : look s (.top i) k := by
  unfold look
  rw [show viewR s (.top i) = some (.list xs) by show viewS (s.getD i .no) = _; rw [e.e]; rfl]; exact h
theorem st_look_top_d {k : D → Prop} [e : Get s i (.d x)] (h : k x) : look s (.top i) k := by
  unfold look viewR
  dsimp only
  rw [e.e]
  exact h
theorem st_look_top_dc {k : D → Prop} {xs : List (D × D)} [e : Get s i (.dc xs)] (h : k (.dict xs)) : look s (.top i) k := by
  unfold look
  rw [show viewR s (.top i) = some (.dict xs) by show viewS (s.getD i .no) = _; rw [e.e]; rfl]; exact h
theorem st_frz_d {k : D → S → Prop} (h : k x s) : frz (.d x) s k := h
theorem st_frz_own {k : D → S → Prop} {xs : List D} (h : k (.list xs) s) : frz (.own (.l xs)) s k := h
theorem st_frz_own_ll {k : D → S → Prop} {xs : List (List D)} (h : k (.list (xs.map .list)) s) : frz (.own (.ll xs)) s k := h
theorem st_frz_own_dc {k : D → S → Prop} {xs : List (D × D)} (h : k (.dict xs) s) : frz (.own (.dc xs)) s k := h
theorem frz_top' {k : D → S → Prop} (e : asD (s.getD i .no) = some x) (h : k x (s.set i (.d x))) : frz (.top i) s k := by unfold frz; dsimp only; rw [e]; exact h
theorem st_frz_top {k : D → S → Prop} {xs : List D} [e : Get s i (.l xs)] [p : Put s i (.d (.list xs)) s'] (h : k (.list xs) s') : frz (.top i) s k := frz_top' (x := .list xs) (by rw [e.e]; rfl) (by rw [p.e]; exact h)
theorem st_frz_top_ll {k : D → S → Prop} {xs : List (List D)} [e : Get s i (.ll xs)] [p : Put s i (.d (.list (xs.map .list))) s'] (h : k (.list (xs.map .list)) s') : frz (.top i) s k := frz_top' (x := .list (xs.map .list)) (by rw [e.e]; rfl) (by rw [p.e]; exact h)
theorem st_frz_top_dc {k : D → S → Prop} {xs : List (D × D)} [e : Get s i (.dc xs)] [p : Put s i (.d (.dict xs)) s'] (h : k (.dict xs) s') : frz (.top i) s k := frz_top' (x := .dict xs) (by rw [e.e]; rfl) (by rw [p.e]; exact h)
theorem st_frzAll_nil {k : List D → S → Prop} (h : k [] s) : frzAll [] s k := h
theorem st_frzAll_cons {k : List D → S → Prop} (h : frz r s fun x s1 => frzAll rs s1 fun xs s2 => k (x :: xs) s2) : frzAll (r :: rs) s k := h
variable {ms : List Bool} {kb : List SV → S → Prop}
theorem st_bind_nil (h : kb [] s) : bindA [] [] s kb := h
theorem st_bind_f (h : frz r s fun x s1 => bindA ms rs s1 fun svs s2 => kb (.d x :: svs) s2) : bindA (false :: ms) (r :: rs) s kb := h
theorem st_bind_tt [g : Get s i v] [p : Put s i .no s'] (h : bindA ms rs s' fun svs s2 => kb (v :: svs) s2) : bindA (true :: ms) (.top i :: rs) s kb := by
  rw [← p.e, ← g.e] at h; exact h
theorem st_bind_td (h : bindA ms rs s fun svs s2 => kb (.d x :: svs) s2) : bindA (true :: ms) (.d x :: rs) s kb := h
theorem st_bind_to (h : bindA ms rs s fun svs s2 => kb (v :: svs) s2) : bindA (true :: ms) (.own v :: rs) s kb := h
theorem st_out_d {k : R → S → Prop} (h : k (.d x) s) : outR (.d x) s k := h
theorem st_out_own {k : R → S → Prop} (h : k (.own v) s) : outR (.own v) s k := h
theorem st_out_top {k : R → S → Prop} [g : Get s i v] [p : Put s i .no s'] (h : k (.own v) s') : outR (.top i) s k := by
  rw [← p.e, ← g.e] at h; exact h
variable {kl : List D → S → Prop} {fr : FA} {ds : List D} {n m : Int}
theorem st_seqI (h : a X s fun r s1 => frz r s1 fun d s2 => match d with | .list xs => kl xs s2 | .tuple xs => kl xs s2 | _ => False) : iSeq a X s kl := h
theorem st_range1 (h : fr X s fun rs s1 => match rs with | [.d (.int j)] => lim62 j ∧ kl (rangeD 0 j.toNat) s1 | _ => False) : iRange1 fr X s kl := h
theorem st_range2 (h : fr X s fun rs s2 => match rs with | [.d (.int i), .d (.int j)] => lim62 i ∧ lim62 j ∧ kl (rangeD i (j - i).toNat) s2 | _ => False) : iRange2 fr X s kl := h
theorem st_enum (h : fr X s fun rs s1 => frzAll rs s1 fun ds s2 => match ds with
  | [.list xs] => kl (enumD xs) s2
  | [.tuple xs] => kl (enumD xs) s2
  | _ => False) : iEnum fr X s kl := h
theorem st_zip (h : fr X s fun rs s1 => frzAll rs s1 fun ds s4 => match ds with
  | [.list xs, .list ys] => kl (zipD xs ys) s4
  | [.tuple xs, .list ys] => kl (zipD xs ys) s4
  | [.list xs, .tuple ys] => kl (zipD xs ys) s4
  | [.tuple xs, .tuple ys] => kl (zipD xs ys) s4
  | _ => False) : iZip fr X s kl := h
theorem st_nm {k : S → Prop} [p : Put s i (.d x) s'] (h : k s') : gNm i x s k := by rw [← p.e] at h; exact h
/-- a def's body begins -/
theorem st_sem {np nl n : Nat} {svs : S} {f : FS} (e : nl = n + np) [p : Pad svs n s] (h : f ⟨fun s => Q (.d .none) (s.take np), fun r s => outR r s fun r' s' => Q r' (s'.take np), fun _ => False, fun _ => False, fun n s => X n (s.take np)⟩ s) : semOf np nl f svs X Q := by
  subst e
  rw [← p.e] at h
  unfold semOf
  rw [Nat.add_sub_cancel]
  exact h
theorem st_tp {k : S → Prop} {fgs : List FG} (h : gTp.gTps fgs ds s k) : gTp fgs (.tuple ds) s k := h
theorem st_tps_nil {k : S → Prop} (h : k s) : gTp.gTps [] [] s k := h
theorem st_tps_cons {k : S → Prop} {fg : FG} {fgs : List FG} (h : fg x s fun s1 => gTp.gTps fgs ds s1 k) : gTp.gTps (fg :: fgs) (x :: ds) s k := h
variable {k : R → Prop} {xs ys : List D}
theorem st_add_i (h : k (.d (.int (n + m)))) : opAdd (.int n) (.int m) k := h
theorem st_add_l (z : xs.length + ys.length ≤ sizeLine) (h : k (.own (.l (xs ++ ys)))) : opAdd (.list xs) (.list ys) k := ⟨z, h⟩
theorem st_add_t (z : xs.length + ys.length ≤ sizeLine) (h : k (.d (.tuple (xs ++ ys)))) : opAdd (.tuple xs) (.tuple ys) k := ⟨z, h⟩
theorem st_sub_i (h : k (.d (.int (n - m)))) : opSub (.int n) (.int m) k := h
theorem st_mul_i (z : okM n m) (h : k (.d (.int (n * m)))) : opMul (.int n) (.int m) k := ⟨z, h⟩
theorem st_fdiv_i (z : okD m) (h : k (.d (.int (n / m)))) : opFdiv (.int n) (.int m) k := ⟨z, h⟩
theorem st_mod_i (z : 0 < m) (h : k (.d (.int (n % m)))) : opMod (.int n) (.int m) k := ⟨z, h⟩
instance {j : Int} : Decidable (okD j) := by unfold okD; infer_instance
instance {i j : Int} : Decidable (okM i j) := by unfold okM; infer_instance
instance {i : Int} : Decidable (lim62 i) := by unfold lim62; infer_instance
theorem lg_le {n k : Nat} (h : n < 2 ^ k) : n.log2 ≤ k := by
  by_cases h0 : n = 0
  · subst h0; simp
  · exact Nat.le_of_lt ((Nat.log2_lt h0).mpr h)
/-- a bound of both factors -/
theorem okM_of (p q : Nat) {i j : Int} (h1 : i.natAbs < 2 ^ p) (h2 : j.natAbs < 2 ^ q) (h : p + q < 1000000 := by decide) : okM i j := by
  have := lg_le h1
  have := lg_le h2
  unfold okM
  omega
theorem okD_of (q : Nat) {j : Int} (h0 : 0 < j) (h2 : j.natAbs < 2 ^ q) (h : q < 9000 := by decide) : okD j := ⟨h0, by have := lg_le h2; omega⟩
theorem st_neg_i (h : k (.d (.int (-n)))) : uNeg (.int n) k := h
theorem st_eq_i (h : k (.d (.bool (decide (n = m))))) : cEq (.int n) (.int m) k := .inr ⟨rfl, rfl, h⟩
theorem st_ne_i (h : k (.d (.bool (!decide (n = m))))) : cNe (.int n) (.int m) k := .inr ⟨rfl, rfl, h⟩
theorem st_eq_b {p q : Bool} (h : k (.d (.bool (p == q)))) : cEq (.bool p) (.bool q) k := .inr ⟨rfl, rfl, by cases p <;> cases q <;> exact h⟩
theorem st_ne_b {p q : Bool} (h : k (.d (.bool (!(p == q))))) : cNe (.bool p) (.bool q) k := .inr ⟨rfl, rfl, by cases p <;> cases q <;> exact h⟩
theorem st_eq (z1 : SeqAt.shaped (unlit x) = true) (z2 : SeqAt.shaped (unlit y) = true) (h : k (.d (.bool (PyData.eqv (unlit x) (unlit y))))) : cEq x y k := .inr ⟨z1, z2, h⟩
theorem st_ne (z1 : SeqAt.shaped (unlit x) = true) (z2 : SeqAt.shaped (unlit y) = true) (h : k (.d (.bool (!PyData.eqv (unlit x) (unlit y))))) : cNe x y k := .inr ⟨z1, z2, h⟩
theorem st_eq_str {p q : Str} (h : k (.d (.bool (decide (p = q))))) : cEq (.str p) (.str q) k := .inl ⟨p, q, rfl, rfl, h⟩
theorem st_ne_str {p q : Str} (h : k (.d (.bool (!decide (p = q))))) : cNe (.str p) (.str q) k := .inl ⟨p, q, rfl, rfl, h⟩
theorem st_lt_i (h : k (.d (.bool (decide (n < m))))) : cLt (.int n) (.int m) k := h
theorem st_le_i (h : k (.d (.bool (decide (n ≤ m))))) : cLe (.int n) (.int m) k := h
theorem st_gt_i (h : k (.d (.bool (decide (m < n))))) : cGt (.int n) (.int m) k := h
theorem st_ge_i (h : k (.d (.bool (decide (m ≤ n))))) : cGe (.int n) (.int m) k := h
theorem st_is_n (h : k (.d (.bool (isNone x)))) : cIs x .none k := by cases x <;> exact h
theorem st_isNot_n (h : k (.d (.bool (!isNone x)))) : cIsNot x .none k := by cases x <;> exact h
theorem st_is_b {p q : Bool} (h : k (.d (.bool (decide (p = q))))) : cIs (.bool p) (.bool q) k := h
theorem st_isNot_b {p q : Bool} (h : k (.d (.bool (!decide (p = q))))) : cIsNot (.bool p) (.bool q) k := h
theorem st_ix_l (e : L2.atI xs n = some x) (h : k (.d x)) : ixD (.list xs) (.int n) k := by
  show (match L2.atI xs n with | some x => k (.d x) | none => False)
  rw [e]; exact h
theorem st_ix_t (e : L2.atI xs n = some x) (h : k (.d x)) : ixD (.tuple xs) (.int n) k := by
  show (match L2.atI xs n with | some x => k (.d x) | none => False)
  rw [e]; exact h
theorem st_ix_lit {ns : List Int} {z : Int} (e : L2.atI ns n = some z) (h : k (.d (.int z))) : ixD (litD ns) (.int n) k := by
  show (match L2.atI (ns.map PyData.int) n with | some x => k (.d x) | none => False)
  rw [show L2.atI (ns.map PyData.int) n = some (.int z) by
    unfold L2.atI at e ⊢
    rw [List.length_map]
    cases q : L2.ixN ns.length n with
    | none => rw [q] at e; cases e
    | some j =>
      rw [q] at e
      show (ns.map PyData.int)[j]? = _
      rw [List.getElem?_map, show ns[j]? = some z from e]; rfl]
  exact h
theorem st_len_l (h : k (.d (.int (xs.length : Nat)))) : bLen [.list xs] k := h
theorem st_len_t (h : k (.d (.int (xs.length : Nat)))) : bLen [.tuple xs] k := h
theorem st_len_lit {ns : List Int} (h : k (.d (.int (ns.length : Nat)))) : bLen [litD ns] k := by
  show k (.d (.int ((ns.map PyData.int).length : Nat)))
  rw [List.length_map]; exact h
theorem st_abs (h : k (.d (.int (n.natAbs : Nat)))) : bAbs [.int n] k := by
  show k (.d (.int (if n < 0 then -n else n)))
  rw [show (if n < 0 then -n else n) = ((n.natAbs : Nat) : Int) by split <;> omega]
  exact h
theorem st_max2 (h : k (.d (.int (max n m)))) : bMax2 [.int n, .int m] k := by
  show k (.d (.int (if m > n then m else n)))
  rw [show (if m > n then m else n) = max n m by split <;> omega]
  exact h
theorem st_min2 (h : k (.d (.int (min n m)))) : bMin2 [.int n, .int m] k := by
  show k (.d (.int (if m < n then m else n)))
  rw [show (if m < n then m else n) = min n m by split <;> omega]
  exact h
theorem st_int_i (h : k (.d (.int n))) : bInt [.int n] k := h
theorem st_int_b {p : Bool} (h : k (.d (.int (if p then 1 else 0)))) : bInt [.bool p] k := h
theorem st_tuple_l (h : k (.d (.tuple xs))) : bTuple [.list xs] k := h
theorem st_tuple_t (h : k (.d (.tuple xs))) : bTuple [.tuple xs] k := h
theorem st_list_l (h : k (.own (.l xs))) : bList [.list xs] k := h
theorem st_list_t (h : k (.own (.l xs))) : bList [.tuple xs] k := h
theorem boolsOf_map' : ∀ bs : List Bool, boolsOf (bs.map PyData.bool) = some bs
  | [] => rfl
  | b :: bs => by show (boolsOf (bs.map PyData.bool)).map (b :: ·) = _; rw [boolsOf_map' bs]; rfl
theorem intsOf_map' : ∀ bs : List Int, intsOf (bs.map PyData.int) = some bs
  | [] => rfl
  | b :: bs => by show (intsOf (bs.map PyData.int)).map (b :: ·) = _; rw [intsOf_map' bs]; rfl
theorem st_all {bs : List Bool} (e : xs = bs.map PyData.bool) (h : k (.d (.bool (bs.all id)))) : bAll [.list xs] k := by
  show (match boolsOf xs with | some bs => k (.d (.bool (bs.all id))) | none => False)
  rw [e, boolsOf_map']; exact h
theorem st_any {bs : List Bool} (e : xs = bs.map PyData.bool) (h : k (.d (.bool (bs.any id)))) : bAny [.list xs] k := by
  show (match boolsOf xs with | some bs => k (.d (.bool (bs.any id))) | none => False)
  rw [e, boolsOf_map']; exact h
theorem st_isT {T : String} (e : isLit x = false) (h : k (.d (.bool (isTy T x)))) : bIs T x k := ⟨e, h⟩
theorem st_iteND {p : Prop} [Decidable p] (e : p) (h : B) : if (!decide p) = true then A else B := by rw [if_neg (by simp [e])]; exact h
theorem st_iteNF {p : Prop} [Decidable p] (e : ¬ p) (h : A) : if (!decide p) = true then A else B := by rw [if_pos (by simp [e])]; exact h
theorem st_iteLen {xs : List D} {m : Int} (e : ((xs.length : Nat) : Int) = m) (h : A) : if decide (((xs.length : Nat) : Int) = m) = true then A else B := by rw [if_pos (by simp [e])]; exact h
theorem st_iteNLen {xs : List D} {m : Int} (e : ((xs.length : Nat) : Int) = m) (h : B) : if (!decide (((xs.length : Nat) : Int) = m)) = true then A else B := by rw [if_neg (by simp [e])]; exact h
theorem st_iteBB {z : Bool} (h : B) : if (!(z == z)) = true then A else B := by rw [if_neg (by simp)]; exact h
theorem st_isTT {T : String} (e : isTy T x = true) (h : A) : if isTy T x = true then A else B := by rw [if_pos e]; exact h
theorem st_isTF {T : String} (e : isTy T x = false) (h : B) : if isTy T x = true then A else B := by rw [if_neg (by simp [e])]; exact h
theorem st_isNT {T : String} (e : isTy T x = true) (h : B) : if (!isTy T x) = true then A else B := by rw [if_neg (by simp [e])]; exact h
theorem st_isNF {T : String} (e : isTy T x = false) (h : A) : if (!isTy T x) = true then A else B := by rw [if_pos (by simp [e])]; exact h
theorem st_append {kk : D → List D → Prop} (z : xs.length < sizeLine) (h : kk .none (xs ++ [x])) : mAppend xs [x] kk := ⟨z, h⟩
theorem st_extend {kk : D → List D → Prop} (z : xs.length + ys.length ≤ sizeLine) (h : kk .none (xs ++ ys)) : mExtend xs [.list ys] kk := ⟨z, h⟩
theorem st_sl_l {lo hi : Option Int} (h : k (.own (.l (slD.cutL xs lo hi)))) : slD (.list xs) lo hi k := h
theorem st_sl_t {lo hi : Option Int} (h : k (.d (.tuple (slD.cutL xs lo hi)))) : slD (.tuple xs) lo hi k := h
theorem loop_for {fg : FG} {wp : List Nat} (I : List D → S → Prop) (hend : ∀ s, I [] s → nx s)
    (hstep : ∀ x xs s (k : S → Prop), I (x :: xs) s → (∀ s', I xs s' → k s') → fg x s fun s1 => f1 ⟨fun s2 => k (wipeS s2 wp), rt, fun s2 => wipeK s2 wp nx, fun s2 => k (wipeS s2 wp), xx⟩ s1) :
    ∀ xs s, I xs s → fLoop fg wp f1 ⟨nx, rt, bk, ct, xx⟩ xs s
  | [], s, h => hend s h
  | x :: xs, s, h => hstep x xs s (fLoop fg wp f1 ⟨nx, rt, bk, ct, xx⟩ xs) h fun s' h' => loop_for I hend hstep xs s' h'
theorem rangeD_cons {lo : Int} {n : Nat} : rangeD lo (n + 1) = .int lo :: rangeD (lo + 1) n := by
  unfold rangeD
  rw [List.range_succ_eq_map, List.map_cons, List.map_map]
  simp only [Int.natCast_zero, Int.add_zero, List.cons.injEq, true_and]
  apply List.map_congr_left
  intro k _
  simp only [Function.comp]
  congr 1
  omega
theorem loop_range {fg : FG} {wp : List Nat} (I : Int → S → Prop) {lo hi : Int} (hend : ∀ s, I (max lo hi) s → nx s)
    (hstep : ∀ i s (k : S → Prop), lo ≤ i → i < hi → I i s → (∀ s', I (i + 1) s' → k s') → fg (.int i) s fun s1 => f1 ⟨fun s2 => k (wipeS s2 wp), rt, fun s2 => wipeK s2 wp nx, fun s2 => k (wipeS s2 wp), xx⟩ s1)
    (h0 : I lo s) : fLoop fg wp f1 ⟨nx, rt, bk, ct, xx⟩ (rangeD lo (hi - lo).toNat) s := by
  have go : ∀ (n : Nat) (i : Int) (s : S), lo ≤ i → (hi - i).toNat = n → (i ≤ hi ∨ i = lo) → I i s → fLoop fg wp f1 ⟨nx, rt, bk, ct, xx⟩ (rangeD i n) s := by
    intro n
    induction n with
    | zero =>
      intro i s h1 h2 h3 h4
      refine hend s ?_
      rw [show max lo hi = i by omega]
      exact h4
    | succ n ih =>
      intro i s h1 h2 h3 h4
      rw [rangeD_cons]
      exact hstep i s (fLoop fg wp f1 ⟨nx, rt, bk, ct, xx⟩ (rangeD (i + 1) n)) h1 (by omega) h4 fun s' h' => ih (i + 1) s' (by omega) (by omega) (.inl (by omega)) h'
  exact go _ lo s (Int.le_refl _) rfl (.inr rfl) h0
theorem loop_range1 {fg : FG} {wp : List Nat} (I : Int → S → Prop) {hi : Int} (hend : ∀ s, I (max 0 hi) s → nx s)
    (hstep : ∀ i s (k : S → Prop), 0 ≤ i → i < hi → I i s → (∀ s', I (i + 1) s' → k s') → fg (.int i) s fun s1 => f1 ⟨fun s2 => k (wipeS s2 wp), rt, fun s2 => wipeK s2 wp nx, fun s2 => k (wipeS s2 wp), xx⟩ s1)
    (h0 : I 0 s) : fLoop fg wp f1 ⟨nx, rt, bk, ct, xx⟩ (rangeD 0 hi.toNat) s := by
  have q := loop_range (lo := 0) (hi := hi) (bk := bk) (ct := ct) I hend hstep h0
  rw [Int.sub_zero] at q
  exact q
theorem loop_while {wp : List Nat} (I : Nat → S → Prop) (hstep : ∀ n s (k : S → Prop), I n s → (∀ m s', m < n → I m s' → k s') → t xx s fun c s1 => if c = true then f1 ⟨fun s2 => k (wipeS s2 wp), rt, fun s2 => wipeK s2 wp nx, fun s2 => k (wipeS s2 wp), xx⟩ s1 else nx s1)
    (n : Nat) (h0 : I n (wipeS s wp)) : fWhile wp t f1 ⟨nx, rt, bk, ct, xx⟩ s := by
  refine ⟨n + 1, ?_⟩
  generalize wipeS s wp = s0 at h0
  have go : ∀ N m s', m < N → I m s' → fWhileN wp t f1 ⟨nx, rt, bk, ct, xx⟩ N s' := by
    intro N
    induction N with
    | zero => intro m s' h; omega
    | succ N ih => exact fun m s' hm hI => hstep m s' (fWhileN wp t f1 ⟨nx, rt, bk, ct, xx⟩ N) hI fun m' s'' hm' hI' => ih m' s'' (by omega) hI'
  exact go (n + 1) n s0 (by omega) h0
/-- without a test -/
theorem comp_all {fg : FG} {wp : List Nat} (f : D → D)
    : ∀ (xs acc : List D), (∀ x, x ∈ xs → ∀ (kT : D → S → Prop), kT (f x) s → fg x s fun s1 => e X s1 fun r s3 => frz r s3 fun d s4 => kT d (wipeS s4 wp)) →
      Q (.own (.l (acc ++ xs.map f))) s → fComp X fg wp fYes e Q xs acc s
  | [], acc, _, h => by
    have h : Q (.own (.l (acc ++ []))) s := h
    rw [List.append_nil] at h
    exact h
  | x :: xs, acc, hs, h => by
    exact hs x List.mem_cons_self (fun d s4 => fComp X fg wp fYes e Q xs (acc ++ [d]) s4) (comp_all f xs _ (fun x hx => hs x (List.mem_cons_of_mem _ hx)) (by simpa using h))
end
end Hs
namespace Hs
open PySem
section
variable {s' s'' : S}
variable {nx bk ct : S → Prop} {rt : R → S → Prop} {X xx : XF} {s : S} {a b c e : FE} {t u : FT} {f1 f2 : FS} {Q : R → S → Prop} {i j : Nat} {x y : D} {v : SV} {g g' : V2} {r : R} {rs : List R} {A B : Prop}
class StepTo (P : Prop) (P' : outParam Prop) : Prop where go : P' → P
theorem stepTo {P P' : Prop} [i : StepTo P P'] (h : P') : P := i.go h
instance go_st_seq : StepTo (fSeq f1 f2 ⟨nx, rt, bk, ct, xx⟩ s) (f1 ⟨fun s1 => f2 ⟨nx, rt, bk, ct, xx⟩ s1, rt, bk, ct, xx⟩ s) := ⟨fun h => st_seq h⟩
instance go_st_asg : StepTo (fAsg i a ⟨nx, rt, bk, ct, xx⟩ s) (a xx s fun r s1 => putR i r s1 nx) := ⟨fun h => st_asg h⟩
instance go_st_next : StepTo (fNext ⟨nx, rt, bk, ct, xx⟩ s) (nx s) := ⟨fun h => st_next h⟩
instance go_st_if : StepTo (fIfS t f1 f2 ⟨nx, rt, bk, ct, xx⟩ s) (t xx s fun c s1 => if c = true then f1 ⟨nx, rt, bk, ct, xx⟩ s1 else f2 ⟨nx, rt, bk, ct, xx⟩ s1) := ⟨fun h => st_if h⟩
instance go_st_ret : StepTo (fRet a ⟨nx, rt, bk, ct, xx⟩ s) (a xx s rt) := ⟨fun h => st_ret h⟩
instance go_st_retN : StepTo (fRetN ⟨nx, rt, bk, ct, xx⟩ s) (rt (.d .none) s) := ⟨fun h => st_retN h⟩
instance go_st_break : StepTo (fBreak ⟨nx, rt, bk, ct, xx⟩ s) (bk s) := ⟨fun h => st_break h⟩
instance go_st_drop : StepTo (fDrop a ⟨nx, rt, bk, ct, xx⟩ s) (a xx s fun _ s1 => nx s1) := ⟨fun h => st_drop h⟩
instance go_st_raise {n : Str} : StepTo (fRaise n ⟨nx, rt, bk, ct, xx⟩ s) (xx n s) := ⟨fun h => st_raise h⟩
instance go_st_put_d {k : S → Prop} [p : Put s i (.d x) s'] : StepTo (putR i (.d x) s k) (k s') := ⟨fun h => st_put_d h⟩
instance go_st_put_own {k : S → Prop} [p : Put s i v s'] : StepTo (putR i (.own v) s k) (k s') := ⟨fun h => st_put_own h⟩
instance go_st_put_top_l {k : S → Prop} {xs : List D} [g : Get s j (.l xs)] [p : Put s j (.d (.list xs)) s'] [p2 : Put s' i (.d (.list xs)) s''] : StepTo (putR i (.top j) s k) (k s'') := ⟨fun h => st_put_top_l h⟩
instance go_st_put_top_ll {k : S → Prop} {xs : List (List D)} [g : Get s j (.ll xs)] [p : Put s j (.d (.list (xs.map .list))) s'] [p2 : Put s' i (.d (.list (xs.map .list))) s''] : StepTo (putR i (.top j) s k) (k s'') := ⟨fun h => st_put_top_ll h⟩
instance go_st_put_top_dc {k : S → Prop} {xs : List (D × D)} [g : Get s j (.dc xs)] [p : Put s j (.d (.dict xs)) s'] [p2 : Put s' i (.d (.dict xs)) s''] : StepTo (putR i (.top j) s k) (k s'') := ⟨fun h => st_put_top_dc h⟩
instance go_st_unp {fg : FG} : StepTo (fUnp fg a ⟨nx, rt, bk, ct, xx⟩ s) (a xx s fun r s1 => frz r s1 fun d s2 => fg d s2 nx) := ⟨fun h => st_unp h⟩
instance go_st_par {fa : FA} : StepTo (fPar i j fa ⟨nx, rt, bk, ct, xx⟩ s) (fa xx s fun rs s2 => match rs with | [r1, r2] => frz r1 s2 fun d1 s3 => frz r2 s3 fun d2 s4 => putR i (.d d1) s4 fun s5 => putR j (.d d2) s5 nx | _ => False) := ⟨fun h => st_par h⟩
instance go_st_setIx : StepTo (fSetIx i b a ⟨nx, rt, bk, ct, xx⟩ s) (a xx s fun r s1 => onL i s1 fun _ => b xx s1 fun rj s2 => match rj with
  | .d (.int k) => frz r s2 fun d s3 => onL i s3 fun xs => 0 ≤ k ∧ k.toNat < xs.length ∧ putR i (.own (.l (xs.set k.toNat d))) s3 nx
  | _ => False) := ⟨fun h => st_setIx h⟩
instance go_st_onL {k : List D → Prop} {xs : List D} [e : Get s i (.l xs)] : StepTo (onL i s k) (k xs) := ⟨fun h => st_onL h⟩
instance go_st_wipe_nil {k : S → Prop} : StepTo (wipeK s [] k) (k s) := ⟨fun h => st_wipe_nil h⟩
instance go_st_wipe_cons {k : S → Prop} {is : List Nat} [p : Put s i .no s'] : StepTo (wipeK s (i :: is) k) (wipeK s' is k) := ⟨fun h => st_wipe_cons h⟩
instance go_st_for {it : FI} {fg : FG} {wp : List Nat} : StepTo (fFor it fg wp f1 ⟨nx, rt, bk, ct, xx⟩ s) (it xx s fun xs s1 => wipeK s1 wp fun s2 => fLoop fg wp f1 ⟨nx, rt, bk, ct, xx⟩ xs s2) := ⟨fun h => st_for h⟩
instance go_st_var_d [e : Get s i (.d x)] : StepTo (fVar i X s Q) (Q (.d x) s) := ⟨fun h => st_var_d h⟩
instance go_st_var_l {xs : List D} [e : Get s i (.l xs)] : StepTo (fVar i X s Q) (Q (.top i) s) := ⟨fun h => st_var_l h⟩
instance go_st_var_ll {xs : List (List D)} [e : Get s i (.ll xs)] : StepTo (fVar i X s Q) (Q (.top i) s) := ⟨fun h => st_var_ll h⟩
instance go_st_var_dc {xs : List (D × D)} [e : Get s i (.dc xs)] : StepTo (fVar i X s Q) (Q (.top i) s) := ⟨fun h => st_var_dc h⟩
instance go_st_C : StepTo (fC x X s Q) (Q (.d x) s) := ⟨fun h => st_C h⟩
instance go_st_nil {k : List R → S → Prop} : StepTo (fNil X s k) (k [] s) := ⟨fun h => st_nil h⟩
instance go_st_cons {k : List R → S → Prop} {fr : FA} : StepTo (fCons a fr X s k) (a X s fun x s1 => fr X s1 fun xs s2 => k (x :: xs) s2) := ⟨fun h => st_cons h⟩
instance go_st_tup {fr : FA} : StepTo (fTup fr X s Q) (fr X s fun rs s1 => frzAll rs s1 fun ds s2 => Q (.d (.tuple ds)) s2) := ⟨fun h => st_tup h⟩
instance go_st_lst {fr : FA} : StepTo (fLst fr X s Q) (fr X s fun rs s1 => frzAll rs s1 fun ds s2 => Q (.own (.l ds)) s2) := ⟨fun h => st_lst h⟩
instance go_st_op : StepTo (fOp g a b X s Q) (a X s fun r1 s1 => b X s1 fun r2 s2 => look s2 r1 fun d => look s2 r2 fun e => g d e fun r => Q r s2) := ⟨fun h => st_op h⟩
instance go_st_un {g1 : V1} : StepTo (fUn g1 a X s Q) (a X s fun r1 s1 => look s1 r1 fun d => g1 d fun r => Q r s1) := ⟨fun h => st_un h⟩
instance go_st_blt {gn : VN} {fr : FA} : StepTo (fBlt gn fr X s Q) (fr X s fun rs s1 => fBlt.lookAll s1 rs fun ds => gn ds fun r => Q r s1) := ⟨fun h => st_blt h⟩
instance go_st_lookAll_nil {k : List D → Prop} : StepTo (fBlt.lookAll s [] k) (k []) := ⟨fun h => st_lookAll_nil h⟩
instance go_st_lookAll_cons {k : List D → Prop} : StepTo (fBlt.lookAll s (r :: rs) k) (look s r fun d => fBlt.lookAll s rs fun ds => k (d :: ds)) := ⟨fun h => st_lookAll_cons h⟩
instance go_st_andV : StepTo (fAndV a b X s Q) (a X s fun r s1 => isB r fun c => if c = true then b X s1 Q else Q (.d (.bool false)) s1) := ⟨fun h => st_andV h⟩
instance go_st_orV : StepTo (fOrV a b X s Q) (a X s fun r s1 => isB r fun c => if c = true then Q (.d (.bool true)) s1 else b X s1 Q) := ⟨fun h => st_orV h⟩
instance go_st_notV : StepTo (fNotV a X s Q) (a X s fun r s1 => isB r fun c => Q (.d (.bool (!c))) s1) := ⟨fun h => st_notV h⟩
instance go_st_ifE : StepTo (fIfE t a b X s Q) (t X s fun c s1 => if c = true then a X s1 Q else b X s1 Q) := ⟨fun h => st_ifE h⟩
instance go_st_chain : StepTo (fChain g g' a b c X s Q) (a X s fun r1 s1 => b X s1 fun r2 s2 => look s2 r1 fun d => look s2 r2 fun e => g d e fun r => isB r fun k =>
  if k = true then c X s2 fun r3 s3 => look s3 r2 fun e' => look s3 r3 fun h => g' e' h fun z => Q z s3 else Q (.d (.bool false)) s2) := ⟨fun h => st_chain h⟩
instance go_st_sl {gs : D → Option Int → Option Int → (R → Prop) → Prop} {lo hi : FO} : StepTo (fSl gs a lo hi X s Q) (a X s fun r s1 => lo X s1 fun l s2 => hi X s2 fun h s3 => look s3 r fun d => gs d l h fun z => Q z s3) := ⟨fun h => st_sl h⟩
instance go_st_noPart {k : Option Int → S → Prop} : StepTo (fNoPart X s k) (k none s) := ⟨fun h => st_noPart h⟩
instance go_st_part {k : Option Int → S → Prop} : StepTo (fPart a X s k) (a X s fun r s1 => match r with | .d (.int i) => k (some i) s1 | _ => False) := ⟨fun h => st_part h⟩
instance go_st_putK_nil {fin : S} {k : S → Prop} : StepTo (putK [] [] fin s k) (k s) := ⟨fun h => st_putK_nil h⟩
instance go_st_putK_t {ms : List Bool} {fin : S} {f : SV} {k : S → Prop} [p : Put s i f s'] : StepTo (putK (true :: ms) (.top i :: rs) (f :: fin) s k) (putK ms rs fin s' k) := ⟨fun h => st_putK_t h⟩
instance go_st_putK_td {ms : List Bool} {fin : S} {f : SV} {k : S → Prop} : StepTo (putK (true :: ms) (.d x :: rs) (f :: fin) s k) (putK ms rs fin s k) := ⟨fun h => st_putK_td h⟩
instance go_st_putK_to {ms : List Bool} {fin : S} {f : SV} {k : S → Prop} : StepTo (putK (true :: ms) (.own v :: rs) (f :: fin) s k) (putK ms rs fin s k) := ⟨fun h => st_putK_to h⟩
instance go_st_putK_f {ms : List Bool} {fin : S} {f : SV} {k : S → Prop} : StepTo (putK (false :: ms) (r :: rs) (f :: fin) s k) (putK ms rs fin s k) := ⟨fun h => st_putK_f h⟩
instance go_st_lc {it : FI} {fg : FG} {wp : List Nat} : StepTo (fLc it fg wp t e X s Q) (it X s fun xs s1 => xs.length ≤ sizeLine ∧ wipeK s1 wp fun s2 => fComp (fun _ _ => False) fg wp t e Q xs [] s2) := ⟨fun h => st_lc h⟩
instance go_st_lm {lm : LM} {fr : FA} : StepTo (fLm i lm fr X s Q) (onL i s fun _ => fr X s fun rs s1 => frzAll rs s1 fun ds s2 => onL i s2 fun xs => lm xs ds fun d xs' => putR i (.own (.l xs')) s2 fun s3 => Q (.d d) s3) := ⟨fun h => st_lm h⟩
variable {q : Bool → S → Prop}
instance go_st_B : StepTo (fB a X s q) (a X s fun r s1 => isB r fun c => q c s1) := ⟨fun h => st_B h⟩
instance go_st_and : StepTo (fAnd t u X s q) (t X s fun c s1 => if c = true then u X s1 q else q false s1) := ⟨fun h => st_and h⟩
instance go_st_or : StepTo (fOr t u X s q) (t X s fun c s1 => if c = true then q true s1 else u X s1 q) := ⟨fun h => st_or h⟩
instance go_st_not : StepTo (fNot t X s q) (t X s fun c s1 => q (!c) s1) := ⟨fun h => st_not h⟩
instance go_st_yes : StepTo (fYes X s q) (q true s) := ⟨fun h => st_yes h⟩
instance go_st_isB {k : Bool → Prop} {z : Bool} : StepTo (isB (.d (.bool z)) k) (k z) := ⟨fun h => st_isB h⟩
instance go_st_t : StepTo (if true = true then A else B) (A) := ⟨fun h => st_t h⟩
instance go_st_f : StepTo (if false = true then A else B) (B) := ⟨fun h => st_f h⟩
instance go_st_nt : StepTo (if (!true) = true then A else B) (B) := ⟨fun h => st_nt h⟩
instance go_st_nf : StepTo (if (!false) = true then A else B) (A) := ⟨fun h => st_nf h⟩
instance go_st_look_d {k : D → Prop} : StepTo (look s (.d x) k) (k x) := ⟨fun h => st_look_d h⟩
instance go_st_look_own {k : D → Prop} {xs : List D} : StepTo (look s (.own (.l xs)) k) (k (.list xs)) := ⟨fun h => st_look_own h⟩
instance go_st_look_own_dc {k : D → Prop} {xs : List (D × D)} : StepTo (look s (.own (.dc xs)) k) (k (.dict xs)) := ⟨fun h => st_look_own_dc h⟩
instance go_st_look_top {k : D → Prop} {xs : List D} [e : Get s i (.l xs)] : StepTo (look s (.top i) k) (k (.list xs)) := ⟨fun h => st_look_top h⟩
instance go_st_look_top_d {k : D → Prop} [e : Get s i (.d x)] : StepTo (look s (.top i) k) (k x) := ⟨fun h => st_look_top_d h⟩
instance go_st_look_top_dc {k : D → Prop} {xs : List (D × D)} [e : Get s i (.dc xs)] : StepTo (look s (.top i) k) (k (.dict xs)) := ⟨fun h => st_look_top_dc h⟩
instance go_st_frz_d {k : D → S → Prop} : StepTo (frz (.d x) s k) (k x s) := ⟨fun h => st_frz_d h⟩
instance go_st_frz_own {k : D → S → Prop} {xs : List D} : StepTo (frz (.own (.l xs)) s k) (k (.list xs) s) := ⟨fun h => st_frz_own h⟩
instance go_st_frz_own_ll {k : D → S → Prop} {xs : List (List D)} : StepTo (frz (.own (.ll xs)) s k) (k (.list (xs.map .list)) s) := ⟨fun h => st_frz_own_ll h⟩
instance go_st_frz_own_dc {k : D → S → Prop} {xs : List (D × D)} : StepTo (frz (.own (.dc xs)) s k) (k (.dict xs) s) := ⟨fun h => st_frz_own_dc h⟩
instance go_st_frz_top {k : D → S → Prop} {xs : List D} [e : Get s i (.l xs)] [p : Put s i (.d (.list xs)) s'] : StepTo (frz (.top i) s k) (k (.list xs) s') := ⟨fun h => st_frz_top h⟩
instance go_st_frz_top_ll {k : D → S → Prop} {xs : List (List D)} [e : Get s i (.ll xs)] [p : Put s i (.d (.list (xs.map .list))) s'] : StepTo (frz (.top i) s k) (k (.list (xs.map .list)) s') := ⟨fun h => st_frz_top_ll h⟩
instance go_st_frz_top_dc {k : D → S → Prop} {xs : List (D × D)} [e : Get s i (.dc xs)] [p : Put s i (.d (.dict xs)) s'] : StepTo (frz (.top i) s k) (k (.dict xs) s') := ⟨fun h => st_frz_top_dc h⟩
instance go_st_frzAll_nil {k : List D → S → Prop} : StepTo (frzAll [] s k) (k [] s) := ⟨fun h => st_frzAll_nil h⟩
instance go_st_frzAll_cons {k : List D → S → Prop} : StepTo (frzAll (r :: rs) s k) (frz r s fun x s1 => frzAll rs s1 fun xs s2 => k (x :: xs) s2) := ⟨fun h => st_frzAll_cons h⟩
variable {ms : List Bool} {kb : List SV → S → Prop}
instance go_st_bind_nil : StepTo (bindA [] [] s kb) (kb [] s) := ⟨fun h => st_bind_nil h⟩
instance go_st_bind_f : StepTo (bindA (false :: ms) (r :: rs) s kb) (frz r s fun x s1 => bindA ms rs s1 fun svs s2 => kb (.d x :: svs) s2) := ⟨fun h => st_bind_f h⟩
instance go_st_bind_tt [g : Get s i v] [p : Put s i .no s'] : StepTo (bindA (true :: ms) (.top i :: rs) s kb) (bindA ms rs s' fun svs s2 => kb (v :: svs) s2) := ⟨fun h => st_bind_tt h⟩
instance go_st_bind_td : StepTo (bindA (true :: ms) (.d x :: rs) s kb) (bindA ms rs s fun svs s2 => kb (.d x :: svs) s2) := ⟨fun h => st_bind_td h⟩
instance go_st_bind_to : StepTo (bindA (true :: ms) (.own v :: rs) s kb) (bindA ms rs s fun svs s2 => kb (v :: svs) s2) := ⟨fun h => st_bind_to h⟩
instance go_st_out_d {k : R → S → Prop} : StepTo (outR (.d x) s k) (k (.d x) s) := ⟨fun h => st_out_d h⟩
instance go_st_out_own {k : R → S → Prop} : StepTo (outR (.own v) s k) (k (.own v) s) := ⟨fun h => st_out_own h⟩
instance go_st_out_top {k : R → S → Prop} [g : Get s i v] [p : Put s i .no s'] : StepTo (outR (.top i) s k) (k (.own v) s') := ⟨fun h => st_out_top h⟩
variable {kl : List D → S → Prop} {fr : FA} {ds : List D} {n m : Int}
instance go_st_seqI : StepTo (iSeq a X s kl) (a X s fun r s1 => frz r s1 fun d s2 => match d with | .list xs => kl xs s2 | .tuple xs => kl xs s2 | _ => False) := ⟨fun h => st_seqI h⟩
instance go_st_range1 : StepTo (iRange1 fr X s kl) (fr X s fun rs s1 => match rs with | [.d (.int j)] => lim62 j ∧ kl (rangeD 0 j.toNat) s1 | _ => False) := ⟨fun h => st_range1 h⟩
instance go_st_range2 : StepTo (iRange2 fr X s kl) (fr X s fun rs s2 => match rs with | [.d (.int i), .d (.int j)] => lim62 i ∧ lim62 j ∧ kl (rangeD i (j - i).toNat) s2 | _ => False) := ⟨fun h => st_range2 h⟩
instance go_st_enum : StepTo (iEnum fr X s kl) (fr X s fun rs s1 => frzAll rs s1 fun ds s2 => match ds with
  | [.list xs] => kl (enumD xs) s2
  | [.tuple xs] => kl (enumD xs) s2
  | _ => False) := ⟨fun h => st_enum h⟩
instance go_st_zip : StepTo (iZip fr X s kl) (fr X s fun rs s1 => frzAll rs s1 fun ds s4 => match ds with
  | [.list xs, .list ys] => kl (zipD xs ys) s4
  | [.tuple xs, .list ys] => kl (zipD xs ys) s4
  | [.list xs, .tuple ys] => kl (zipD xs ys) s4
  | [.tuple xs, .tuple ys] => kl (zipD xs ys) s4
  | _ => False) := ⟨fun h => st_zip h⟩
instance go_st_nm {k : S → Prop} [p : Put s i (.d x) s'] : StepTo (gNm i x s k) (k s') := ⟨fun h => st_nm h⟩
instance go_st_tp {k : S → Prop} {fgs : List FG} : StepTo (gTp fgs (.tuple ds) s k) (gTp.gTps fgs ds s k) := ⟨fun h => st_tp h⟩
instance go_st_tps_nil {k : S → Prop} : StepTo (gTp.gTps [] [] s k) (k s) := ⟨fun h => st_tps_nil h⟩
instance go_st_tps_cons {k : S → Prop} {fg : FG} {fgs : List FG} : StepTo (gTp.gTps (fg :: fgs) (x :: ds) s k) (fg x s fun s1 => gTp.gTps fgs ds s1 k) := ⟨fun h => st_tps_cons h⟩
variable {k : R → Prop} {xs ys : List D}
instance go_st_add_i : StepTo (opAdd (.int n) (.int m) k) (k (.d (.int (n + m)))) := ⟨fun h => st_add_i h⟩
instance go_st_sub_i : StepTo (opSub (.int n) (.int m) k) (k (.d (.int (n - m)))) := ⟨fun h => st_sub_i h⟩
instance go_st_neg_i : StepTo (uNeg (.int n) k) (k (.d (.int (-n)))) := ⟨fun h => st_neg_i h⟩
instance go_st_eq_i : StepTo (cEq (.int n) (.int m) k) (k (.d (.bool (decide (n = m))))) := ⟨fun h => st_eq_i h⟩
instance go_st_ne_i : StepTo (cNe (.int n) (.int m) k) (k (.d (.bool (!decide (n = m))))) := ⟨fun h => st_ne_i h⟩
instance go_st_eq_b {p q : Bool} : StepTo (cEq (.bool p) (.bool q) k) (k (.d (.bool (p == q)))) := ⟨fun h => st_eq_b h⟩
instance go_st_ne_b {p q : Bool} : StepTo (cNe (.bool p) (.bool q) k) (k (.d (.bool (!(p == q))))) := ⟨fun h => st_ne_b h⟩
instance go_st_eq_str {p q : Str} : StepTo (cEq (.str p) (.str q) k) (k (.d (.bool (decide (p = q))))) := ⟨fun h => st_eq_str h⟩
instance go_st_ne_str {p q : Str} : StepTo (cNe (.str p) (.str q) k) (k (.d (.bool (!decide (p = q))))) := ⟨fun h => st_ne_str h⟩
instance go_st_lt_i : StepTo (cLt (.int n) (.int m) k) (k (.d (.bool (decide (n < m))))) := ⟨fun h => st_lt_i h⟩
instance go_st_le_i : StepTo (cLe (.int n) (.int m) k) (k (.d (.bool (decide (n ≤ m))))) := ⟨fun h => st_le_i h⟩
instance go_st_gt_i : StepTo (cGt (.int n) (.int m) k) (k (.d (.bool (decide (m < n))))) := ⟨fun h => st_gt_i h⟩
instance go_st_ge_i : StepTo (cGe (.int n) (.int m) k) (k (.d (.bool (decide (m ≤ n))))) := ⟨fun h => st_ge_i h⟩
instance go_st_is_n : StepTo (cIs x .none k) (k (.d (.bool (isNone x)))) := ⟨fun h => st_is_n h⟩
instance go_st_isNot_n : StepTo (cIsNot x .none k) (k (.d (.bool (!isNone x)))) := ⟨fun h => st_isNot_n h⟩
instance go_st_is_b {p q : Bool} : StepTo (cIs (.bool p) (.bool q) k) (k (.d (.bool (decide (p = q))))) := ⟨fun h => st_is_b h⟩
instance go_st_isNot_b {p q : Bool} : StepTo (cIsNot (.bool p) (.bool q) k) (k (.d (.bool (!decide (p = q))))) := ⟨fun h => st_isNot_b h⟩
instance go_st_len_l : StepTo (bLen [.list xs] k) (k (.d (.int (xs.length : Nat)))) := ⟨fun h => st_len_l h⟩
instance go_st_len_t : StepTo (bLen [.tuple xs] k) (k (.d (.int (xs.length : Nat)))) := ⟨fun h => st_len_t h⟩
instance go_st_len_lit {ns : List Int} : StepTo (bLen [litD ns] k) (k (.d (.int (ns.length : Nat)))) := ⟨fun h => st_len_lit h⟩
instance go_st_abs : StepTo (bAbs [.int n] k) (k (.d (.int (n.natAbs : Nat)))) := ⟨fun h => st_abs h⟩
instance go_st_max2 : StepTo (bMax2 [.int n, .int m] k) (k (.d (.int (max n m)))) := ⟨fun h => st_max2 h⟩
instance go_st_min2 : StepTo (bMin2 [.int n, .int m] k) (k (.d (.int (min n m)))) := ⟨fun h => st_min2 h⟩
instance go_st_int_i : StepTo (bInt [.int n] k) (k (.d (.int n))) := ⟨fun h => st_int_i h⟩
instance go_st_int_b {p : Bool} : StepTo (bInt [.bool p] k) (k (.d (.int (if p then 1 else 0)))) := ⟨fun h => st_int_b h⟩
instance go_st_tuple_l : StepTo (bTuple [.list xs] k) (k (.d (.tuple xs))) := ⟨fun h => st_tuple_l h⟩
instance go_st_tuple_t : StepTo (bTuple [.tuple xs] k) (k (.d (.tuple xs))) := ⟨fun h => st_tuple_t h⟩
instance go_st_list_l : StepTo (bList [.list xs] k) (k (.own (.l xs))) := ⟨fun h => st_list_l h⟩
instance go_st_list_t : StepTo (bList [.tuple xs] k) (k (.own (.l xs))) := ⟨fun h => st_list_t h⟩
instance go_st_sl_l {lo hi : Option Int} : StepTo (slD (.list xs) lo hi k) (k (.own (.l (slD.cutL xs lo hi)))) := ⟨fun h => st_sl_l h⟩
instance go_st_sl_t {lo hi : Option Int} : StepTo (slD (.tuple xs) lo hi k) (k (.d (.tuple (slD.cutL xs lo hi)))) := ⟨fun h => st_sl_t h⟩
end
end Hs
namespace Hs
open PySem
section
variable {X : XF} {s : S} {Q : R → S → Prop} {fa fb : FE} {n m : Int} {k : R → Prop} {xs ys : List D} {x y : D}
theorem st_rg1 {mk : List D → R} (h : fa X s fun r s1 => match r with | .d (.int j) => L2.RgOk 0 j ∧ Q (mk (rangeD 0 j.toNat)) s1 | _ => False) : fRg1 mk fa X s Q := h
theorem st_rg2 {mk : List D → R} (h : fa X s fun r1 s1 => fb X s1 fun r2 s2 => match r1, r2 with | .d (.int i), .d (.int j) => L2.RgOk i j ∧ Q (mk (rangeD i (j - i).toNat)) s2 | _, _ => False) : fRg2 mk fa fb X s Q := h
theorem st_enumL {fr : FA} {kl : List D → S → Prop} (h : fr X s fun rs s1 => frzAll rs s1 fun ds s2 => match ds with
  | [.list xs] => kl (enumD xs) s2
  | [.tuple xs] => kl (enumD xs) s2
  | _ => False) : iEnumL fr X s kl := h
theorem st_zipS {fr : FA} {kl : List D → S → Prop} (h : fr X s fun rs s1 => frzAll rs s1 fun ds s4 => match ds with
  | [.list xs, .list ys] => kl (zipD xs ys) s4
  | [.tuple xs, .tuple ys] => kl (zipD xs ys) s4
  | _ => False) : iZipS fr X s kl := h
theorem st_rev_l (h : k (.own (.l xs.reverse))) : revD (.list xs) k := h
theorem st_rev_t (h : k (.d (.tuple xs.reverse))) : revD (.tuple xs) k := h
theorem st_in_t (z1 : SeqAt.shaped x = true) (z2 : SeqAt.shaped (.tuple xs) = true) (h : k (.d (.bool (xs.any fun z => PyData.eqv z x)))) : cIn x (.tuple xs) k := ⟨z1, z2, h⟩
theorem st_in_l (z1 : SeqAt.shaped x = true) (z2 : SeqAt.shaped (.list xs) = true) (h : k (.d (.bool (xs.any fun z => PyData.eqv z x)))) : cIn x (.list xs) k := ⟨z1, z2, h⟩
theorem st_notIn_t (z1 : SeqAt.shaped x = true) (z2 : SeqAt.shaped (.tuple xs) = true) (h : k (.d (.bool (!xs.any fun z => PyData.eqv z x)))) : cNotIn x (.tuple xs) k := ⟨z1, z2, h⟩
theorem st_notIn_l (z1 : SeqAt.shaped x = true) (z2 : SeqAt.shaped (.list xs) = true) (h : k (.d (.bool (!xs.any fun z => PyData.eqv z x)))) : cNotIn x (.list xs) k := ⟨z1, z2, h⟩
theorem st_lt_t {ns ms : List Int} (e1 : intsOf xs = some ns) (e2 : intsOf ys = some ms) (h : k (.d (.bool (HT.lexLt ns ms)))) : cLt (.tuple xs) (.tuple ys) k := by
  show (match intsOf xs, intsOf ys with | some ns, some ms => k (.d (.bool (HT.lexLt ns ms))) | _, _ => False)
  rw [e1, e2]; exact h
theorem pairsOf_map' : ∀ ps : List (Int × Int), pairsOf (ps.map pairD) = some ps
  | [] => rfl
  | p :: ps => by
    show (match pairOf (pairD p), pairsOf (ps.map pairD) with | some p, some ps => some (p :: ps) | _, _ => none) = _
    rw [pairsOf_map' ps]; rfl
theorem st_sort_p {ps : List (Int × Int)} (e : xs = ps.map pairD) (h : ∀ qs : List (Int × Int), qs.Perm ps → qs.Pairwise (fun p q => ltPr q p = false) → k (.own (.l (qs.map pairD)))) : bSorted [.list xs] k := by
  subst e
  cases ps with
  | nil => exact fun ms hp hs => by rw [hp.eq_nil]; exact h [] (List.Perm.refl _) .nil
  | cons p ps =>
    show (match pairsOf ((p :: ps).map pairD) with | some _ => bSortP [.list ((p :: ps).map pairD)] k | none => bSortT [.list ((p :: ps).map pairD)] k)
    rw [pairsOf_map']
    show (match pairsOf ((p :: ps).map pairD) with | some ps => ∀ qs : List (Int × Int), qs.Perm ps → qs.Pairwise (fun p q => ltPr q p = false) → k (.own (.l (qs.map pairD))) | none => False)
    rw [pairsOf_map']
    exact h
end
/-- all of truths -/
theorem st_all_true {k : R → Prop} {xs : List D} (h : k (.d (.bool true))) : bAll [.list (xs.map fun _ => .bool true)] k := by
  refine st_all (bs := xs.map fun _ => true) (by simp) ?_
  rw [show (xs.map fun _ => true).all id = true by simp]
  exact h
/-- a comprehension all of whose items are true -/
theorem comp_true {X : XF} {fg : FG} {wp : List Nat} {e : FE} {Q : R → S → Prop} {s : S} {xs : List D} (hs : ∀ x, x ∈ xs → ∀ (kT : D → S → Prop), kT (.bool true) s → fg x s fun s1 => e X s1 fun r s3 => frz r s3 fun d s4 => kT d (wipeS s4 wp)) (h : Q (.own (.l (xs.map fun _ => .bool true))) s) :
    fComp X fg wp fYes e Q xs [] s := comp_all (fun _ => .bool true) xs [] hs (by simpa using h)
/-- a comprehension that changes the state -/
theorem comp_inv {X : XF} {fg : FG} {wp : List Nat} {t : FT} {e : FE} {Q : R → S → Prop} (I : List D → List D → S → Prop) (hend : ∀ acc s, I [] acc s → Q (.own (.l acc)) s)
    (hstep : ∀ x xs acc s (kT : D → S → Prop) (kF : S → Prop), I (x :: xs) acc s → (∀ d s', I xs (acc ++ [d]) s' → kT d s') → (∀ s', I xs acc s' → kF s') → fg x s fun s1 => t X s1 fun b s2 => if b = true then e X s2 fun r s3 => frz r s3 fun d s4 => kT d (wipeS s4 wp) else kF (wipeS s2 wp)) :
    ∀ xs acc s, I xs acc s → fComp X fg wp t e Q xs acc s
  | [], acc, s, h => hend acc s h
  | x :: xs, acc, s, h => hstep x xs acc s (fun d s4 => fComp X fg wp t e Q xs (acc ++ [d]) s4) (fun s4 => fComp X fg wp t e Q xs acc s4) h (fun d s' h' => comp_inv I hend hstep xs _ s' h') fun s' h' => comp_inv I hend hstep xs _ s' h'
/-- a tuple of whole numbers -/
def IntT (m : Nat) (d : D) : Prop := ∃ ks : List Int, d = .tuple (ks.map .int) ∧ ks.length ≤ m
theorem IntT.cut {m : Nat} {ks : List Int} {lo hi : Option Int} (h : ks.length ≤ m) : ∃ ls : List Int, slD.cutL (ks.map PyData.int) lo hi = ls.map PyData.int ∧ ls.length ≤ m := by
  unfold slD.cutL
  rw [List.length_map, ← List.map_drop, ← List.map_take]
  exact ⟨_, rfl, by rw [List.length_take, List.length_drop]; omega⟩
theorem comp_list {α : Type} {X : XF} {fg : FG} {wp : List Nat} {e : FE} {Q : R → S → Prop} {s : S} (g f : α → D) (l : List α) (hs : ∀ a, a ∈ l → ∀ (kT : D → S → Prop), kT (f a) s → fg (g a) s fun s1 => e X s1 fun r s3 => frz r s3 fun d s4 => kT d (wipeS s4 wp)) (h : Q (.own (.l (l.map f))) s) :
    fComp X fg wp fYes e Q (l.map g) [] s := by
  have go : ∀ (l : List α) (acc : List D), (∀ a, a ∈ l → ∀ (kT : D → S → Prop), kT (f a) s → fg (g a) s fun s1 => e X s1 fun r s3 => frz r s3 fun d s4 => kT d (wipeS s4 wp)) → Q (.own (.l (acc ++ l.map f))) s → fComp X fg wp fYes e Q (l.map g) acc s := by
    intro l
    induction l with
    | nil =>
      intro acc _ h
      have h : Q (.own (.l (acc ++ []))) s := h
      rw [List.append_nil] at h
      exact h
    | cons a l ih =>
      intro acc hs h
      exact hs a List.mem_cons_self (fun d s4 => fComp X fg wp fYes e Q (l.map g) (acc ++ [d]) s4) (ih _ (fun b hb => hs b (List.mem_cons_of_mem _ hb)) (by simpa using h))
  exact go l [] hs (by simpa using h)
theorem comp_filter {α : Type} {X : XF} {fg : FG} {wp : List Nat} {t : FT} {e : FE} {Q : R → S → Prop} {s : S} (g f : α → D) (p : α → Bool) (l : List α)
    (hs : ∀ a, a ∈ l → ∀ (kT : D → S → Prop) (kF : S → Prop), (p a = true → kT (f a) s) → (p a = false → kF s) → fg (g a) s fun s1 => t X s1 fun b s2 => if b = true then e X s2 fun r s3 => frz r s3 fun d s4 => kT d (wipeS s4 wp) else kF (wipeS s2 wp)) (h : Q (.own (.l ((l.filter p).map f))) s) :
    fComp X fg wp t e Q (l.map g) [] s := by
  have go : ∀ (l : List α) (acc : List D), (∀ a, a ∈ l → ∀ (kT : D → S → Prop) (kF : S → Prop), (p a = true → kT (f a) s) → (p a = false → kF s) → fg (g a) s fun s1 => t X s1 fun b s2 => if b = true then e X s2 fun r s3 => frz r s3 fun d s4 => kT d (wipeS s4 wp) else kF (wipeS s2 wp)) →
      Q (.own (.l (acc ++ (l.filter p).map f))) s → fComp X fg wp t e Q (l.map g) acc s := by
    intro l
    induction l with
    | nil =>
      intro acc _ h
      have h : Q (.own (.l (acc ++ []))) s := h
      rw [List.append_nil] at h
      exact h
    | cons a l ih =>
      intro acc hs h
      refine hs a List.mem_cons_self (fun d s4 => fComp X fg wp t e Q (l.map g) (acc ++ [d]) s4) (fun s4 => fComp X fg wp t e Q (l.map g) acc s4) (fun q => ?_) (fun q => ?_)
      · exact ih _ (fun b hb => hs b (List.mem_cons_of_mem _ hb)) (by rw [List.filter_cons_of_pos (by simp [q])] at h; simpa using h)
      · exact ih _ (fun b hb => hs b (List.mem_cons_of_mem _ hb)) (by rw [List.filter_cons_of_neg (by simp [q])] at h; exact h)
  exact go l [] hs (by simpa using h)
theorem st_all_map {α : Type} {l : List α} {b : α → Bool} {k : R → Prop} (h : k (.d (.bool (l.all b)))) : bAll [.list (l.map fun a => .bool (b a))] k := by
  refine st_all (bs := l.map b) (by simp) ?_
  rw [List.all_map]
  exact h
theorem st_any_map {α : Type} {l : List α} {b : α → Bool} {k : R → Prop} (h : k (.d (.bool (l.any b)))) : bAny [.list (l.map fun a => .bool (b a))] k := by
  refine st_any (bs := l.map b) (by simp) ?_
  rw [List.any_map]
  exact h
theorem loop_list {α : Type} {nx bk ct : S → Prop} {rt : R → S → Prop} {xx : XF} {f1 : FS} {fg : FG} {wp : List Nat} (g : α → D) (I : List α → S → Prop) (hend : ∀ s, I [] s → nx s)
    (hstep : ∀ a l s (k : S → Prop), I (a :: l) s → (∀ s', I l s' → k s') → fg (g a) s fun s1 => f1 ⟨fun s2 => k (wipeS s2 wp), rt, fun s2 => wipeK s2 wp nx, fun s2 => k (wipeS s2 wp), xx⟩ s1) : ∀ l s, I l s → fLoop fg wp f1 ⟨nx, rt, bk, ct, xx⟩ (l.map g) s
  | [], s, h => hend s h
  | a :: l, s, h => hstep a l s (fLoop fg wp f1 ⟨nx, rt, bk, ct, xx⟩ (l.map g)) h fun s' h' => loop_list g I hend hstep l s' h'
theorem st_mul_t {xs : List D} {n : Int} {k : R → Prop} (z0 : xs ≠ []) (z1 : 0 ≤ n) (z2 : n ≤ 1000) (z3 : xs.length ≤ 1000) (h : k (.d (.tuple (List.replicate n.toNat xs).flatten))) : opMul (.tuple xs) (.int n) k := ⟨z0, z1, z2, z3, h⟩
theorem st_mul_l {xs : List D} {n : Int} {k : R → Prop} (z1 : -(2 ^ 63) ≤ n) (z2 : n < 2 ^ 63) (z3 : xs.length * n.toNat ≤ sizeLine) (h : k (.own (.l (List.replicate n.toNat xs).flatten))) : opMul (.list xs) (.int n) k := ⟨z1, z2, z3, h⟩
theorem st_ne_lit {ns : List Int} {k : R → Prop} (h : k (.d (.bool (decide (0 < ns.length))))) : cNe (litD ns) (.list []) k := by
  have one : ∀ ns : List Int, PyData.canLayAll0 (ns.map PyData.int) = true ∧ PyData.depthAll (ns.map PyData.int) ≤ 1 := by
    intro ns
    induction ns with
    | nil => exact ⟨rfl, by show (0 : Nat) ≤ 1; decide⟩
    | cons n ns ih =>
      refine ⟨?_, ?_⟩
      · show ((PyData.int n).canLay0 && PyData.canLayAll0 (ns.map PyData.int)) = true
        rw [ih.1]; rfl
      · show max ((PyData.int n).depth) (PyData.depthAll (ns.map PyData.int)) ≤ 1
        have h2 : (PyData.int n).depth ≤ 1 := by simp [PyData.depth]
        have h3 := ih.2
        omega
  obtain ⟨o1, o2⟩ := one ns
  refine st_ne (x := litD ns) ?_ rfl ?_
  · show SeqAt.shaped (.list (ns.map PyData.int)) = true
    unfold SeqAt.shaped
    rw [show (PyData.list (ns.map PyData.int)).canLay0 = PyData.canLayAll0 (ns.map PyData.int) from by simp [PyData.canLay0], o1]
    simp [PyData.depth]
    omega
  · show k (.d (.bool (!PyData.eqvAll (ns.map PyData.int) [])))
    cases ns with
    | nil => exact h
    | cons n ns => simpa [PyData.eqvAll] using h
theorem shaped_int {i : Int} : SeqAt.shaped (.int i) = true := rfl
theorem canLay_pairs : ∀ ts : List (Int × Int), PyData.canLayAll0 (ts.map pairD) = true
  | [] => rfl
  | t :: ts => by
    show ((pairD t).canLay0 && PyData.canLayAll0 (ts.map pairD)) = true
    rw [canLay_pairs ts]; rfl
theorem depth_pairs : ∀ ts : List (Int × Int), PyData.depthAll (ts.map pairD) ≤ 2
  | [] => by show (0 : Nat) ≤ 2; decide
  | t :: ts => by
    show max ((pairD t).depth) (PyData.depthAll (ts.map pairD)) ≤ 2
    have h := depth_pairs ts
    have h2 : (pairD t).depth ≤ 2 := by unfold pairD; simp [PyData.depth, PyData.depthAll]
    omega
theorem shaped_pairD {p : Int × Int} : SeqAt.shaped (pairD p) = true := rfl
theorem shaped_pairs {ts : List (Int × Int)} : SeqAt.shaped (.tuple (ts.map pairD)) = true := by
  unfold SeqAt.shaped
  rw [show (PyData.tuple (ts.map pairD)).canLay0 = PyData.canLayAll0 (ts.map pairD) from by simp [PyData.canLay0], canLay_pairs]
  have h := depth_pairs ts
  simp [PyData.depth]
  omega
theorem shaped_pairsL {ts : List (Int × Int)} : SeqAt.shaped (.list (ts.map pairD)) = true := by
  unfold SeqAt.shaped
  rw [show (PyData.list (ts.map pairD)).canLay0 = PyData.canLayAll0 (ts.map pairD) from by simp [PyData.canLay0], canLay_pairs]
  have h := depth_pairs ts
  simp [PyData.depth]
  omega
theorem eqv_pair {p q : Int × Int} : PyData.eqv (pairD p) (pairD q) = decide (p = q) := by
  obtain ⟨a, b⟩ := p
  obtain ⟨c, d⟩ := q
  simp only [pairD, PyData.eqv, PyData.eqvAll, Prod.mk.injEq, Bool.and_true]
  by_cases h1 : a = c <;> by_cases h2 : b = d <;> simp [h1, h2]
theorem any_pair {ts : List (Int × Int)} {p : Int × Int} : ((ts.map pairD).any fun z => PyData.eqv z (pairD p)) = decide (p ∈ ts) := by
  rw [List.any_map]
  apply Bool.eq_iff_iff.mpr
  simp only [List.any_eq_true, Function.comp, eqv_pair, decide_eq_true_eq]
  constructor
  · rintro ⟨q, h, rfl⟩; exact h
  · intro h; exact ⟨p, h, rfl⟩
theorem st_in_pt {ts : List (Int × Int)} {a b : Int} {k : R → Prop} (h : k (.d (.bool (decide ((a, b) ∈ ts))))) : cIn (.tuple [.int a, .int b]) (.tuple (ts.map pairD)) k := by
  refine st_in_t (shaped_pairD (p := (a, b))) shaped_pairs ?_
  rw [show (PyData.tuple [.int a, .int b]) = pairD (a, b) from rfl, any_pair]
  exact h
theorem st_in_pl {ts : List (Int × Int)} {a b : Int} {k : R → Prop} (h : k (.d (.bool (decide ((a, b) ∈ ts))))) : cIn (.tuple [.int a, .int b]) (.list (ts.map pairD)) k := by
  refine st_in_l (shaped_pairD (p := (a, b))) shaped_pairsL ?_
  rw [show (PyData.tuple [.int a, .int b]) = pairD (a, b) from rfl, any_pair]
  exact h
/-- a web -/
abbrev webD (n : Int) (ts : List (Int × Int)) : D := .tuple [.int n, .tuple (ts.map pairD)]
structure Good (n : Int) (ts : List (Int × Int)) : Prop where
  n0 : 0 ≤ n
  n10 : n ≤ 10
  ties : ∀ p ∈ ts, 0 ≤ p.1 ∧ p.1 < p.2 ∧ p.2 < n
  up : ts.Pairwise (fun p q => ltPr p q = true)
  few : ts.length ≤ 1000
theorem lex_pair {p q : Int × Int} : HT.lexLt [p.1, p.2] [q.1, q.2] = ltPr p q := by
  unfold ltPr
  rw [HT.lexLt_cons]
  by_cases h : p.1 = q.1
  · rw [if_pos h, h, HT.lexLt_cons]
    by_cases h2 : p.2 = q.2
    · rw [if_pos h2, h2]; simp [HT.lexLt_nil_nil]
    · rw [if_neg h2]; simp
  · rw [if_neg h]; simp [h]
theorem at_ok {ns : List Int} {i : Int} (h0 : 0 ≤ i) (h1 : i < (ns.length : Int)) : ∃ z, L2.atI ns i = some z := by
  obtain ⟨k, rfl⟩ := Int.eq_ofNat_of_zero_le h0
  have hk : k < ns.length := by omega
  exact ⟨ns[k], L2.atI_nat (by simp [hk])⟩
/-- sorted, each once: strictly rising -/
theorem strict_of {ps qs : List (Int × Int)} (hp : qs.Perm ps) (hn : ps.Nodup) (hs : qs.Pairwise (fun p q => ltPr q p = false)) : qs.Pairwise (fun p q => ltPr p q = true) := by
  have hn' : qs.Pairwise (· ≠ ·) := hp.nodup_iff.mpr hn
  refine (List.Pairwise.and hs hn').imp fun {p q} h => ?_
  obtain ⟨h1, h2⟩ := h
  obtain ⟨a, b⟩ := p
  obtain ⟨c, d⟩ := q
  unfold ltPr at *
  simp only [Bool.or_eq_true, decide_eq_true_eq, Bool.and_eq_true, beq_iff_eq, Bool.or_eq_false_iff, Bool.and_eq_false_iff, decide_eq_false_iff_not, beq_eq_false_iff_ne, ne_eq, Prod.mk.injEq] at *
  omega
def atZ (ks : List Int) (i : Int) : Int := ks.getD i.toNat 0
theorem atZ_ok {ks : List Int} {i : Int} (h0 : 0 ≤ i) (h1 : i < (ks.length : Int)) : L2.atI (ks.map PyData.int) i = some (.int (atZ ks i)) := by
  obtain ⟨k, rfl⟩ := Int.eq_ofNat_of_zero_le h0
  have hk : k < ks.length := by omega
  refine L2.atI_nat ?_
  rw [List.getElem?_map, List.getElem?_eq_getElem hk]
  simp [atZ, List.getD_eq_getElem?_getD, List.getElem?_eq_getElem hk]
theorem canLay_web {n : Int} {ts : List (Int × Int)} : (webD n ts).canLay0 = true := by
  simp [webD, PyData.canLay0, PyData.canLayAll0, canLay_pairs]
theorem lay_ints : ∀ ns : List Int, PyData.canLayAll0 (ns.map PyData.int) = true ∧ PyData.depthAll (ns.map PyData.int) ≤ 1
  | [] => ⟨rfl, Nat.zero_le _⟩
  | n :: ns => by
    obtain ⟨h1, h2⟩ := lay_ints ns
    refine ⟨by show ((PyData.int n).canLay0 && PyData.canLayAll0 (ns.map PyData.int)) = true; rw [h1]; rfl, ?_⟩
    show max ((PyData.int n).depth) (PyData.depthAll (ns.map PyData.int)) ≤ 1
    have h3 : (PyData.int n).depth ≤ 1 := by simp [PyData.depth]
    omega
theorem shaped_intsL {ns : List Int} : SeqAt.shaped (.list (ns.map PyData.int)) = true := by
  obtain ⟨h1, h2⟩ := lay_ints ns
  unfold SeqAt.shaped
  rw [show (PyData.list (ns.map PyData.int)).canLay0 = PyData.canLayAll0 (ns.map PyData.int) from by simp [PyData.canLay0], h1]
  simp [PyData.depth]
  omega
theorem shaped_intsT {ns : List Int} : SeqAt.shaped (.tuple (ns.map PyData.int)) = true := by
  obtain ⟨h1, h2⟩ := lay_ints ns
  unfold SeqAt.shaped
  rw [show (PyData.tuple (ns.map PyData.int)).canLay0 = PyData.canLayAll0 (ns.map PyData.int) from by simp [PyData.canLay0], h1]
  simp [PyData.depth]
  omega
theorem eqv_ints : ∀ ns ms : List Int, PyData.eqvAll (ns.map PyData.int) (ms.map PyData.int) = decide (ns = ms)
  | [], [] => rfl
  | [], _ :: _ => rfl
  | _ :: _, [] => rfl
  | n :: ns, m :: ms => by
    show (PyData.eqv (.int n) (.int m) && PyData.eqvAll (ns.map PyData.int) (ms.map PyData.int)) = _
    rw [eqv_ints ns ms]
    simp only [PyData.eqv]
    by_cases h1 : n = m <;> by_cases h2 : ns = ms <;> simp [h1, h2]
theorem st_ne_ll {ns ms : List Int} {k : R → Prop} (h : k (.d (.bool (!decide (ns = ms))))) : cNe (.list (ns.map .int)) (.list (ms.map .int)) k := by
  refine st_ne (x := .list (ns.map .int)) (y := .list (ms.map .int)) shaped_intsL shaped_intsL ?_
  show k (.d (.bool (!PyData.eqvAll (ns.map .int) (ms.map .int))))
  rw [eqv_ints]
  exact h
def rangeI (n : Nat) : List Int := (List.range n).map fun (k : Nat) => (k : Int)
theorem rangeD_map {n : Nat} : rangeD 0 n = (rangeI n).map PyData.int := by
  unfold rangeD rangeI
  rw [List.map_map]
  apply List.map_congr_left
  intro k _
  simp
theorem rangeI_len {n : Nat} : (rangeI n).length = n := by unfold rangeI; simp
theorem rangeI_mem {n : Nat} {i : Int} : i ∈ rangeI n ↔ 0 ≤ i ∧ i < n := by
  unfold rangeI
  rw [List.mem_map]
  constructor
  · rintro ⟨k, hk, rfl⟩
    have := List.mem_range.mp hk
    omega
  · rintro ⟨h0, h1⟩
    exact ⟨i.toNat, List.mem_range.mpr (by omega), by omega⟩
/-- script, where, what is left to be drawn from; F draws are allowed at least -/
def Cup (ns : List Int) (F : Nat) (xs : List D) : Prop := ∃ a v : Int, xs = [litD ns, .int a, .int v] ∧ 0 ≤ a ∧ a + (F : Int) ≤ 2 ^ 64
theorem Cup.less {ns : List Int} {F G : Nat} {xs : List D} (h : Cup ns F xs) (l : G ≤ F) : Cup ns G xs := by
  obtain ⟨a, v, e, h0, h1⟩ := h
  exact ⟨a, v, e, h0, by omega⟩
end Hs
namespace Hs
open PySem
class PvAll (ws : List PV) (ds : outParam (List D)) : Prop where e : ws.map PV.asD = ds
instance pvN : PvAll [] [] := ⟨rfl⟩
instance pvD {x : D} {ws : List PV} {ds : List D} [h : PvAll ws ds] : PvAll (.d x :: ws) (x :: ds) := ⟨by rw [List.map_cons, h.e]; rfl⟩
instance pvL {x : List D} {ws : List PV} {ds : List D} [h : PvAll ws ds] : PvAll (.l x :: ws) (.list x :: ds) := ⟨by rw [List.map_cons, h.e]; rfl⟩
instance pvC {x : List (D × D)} {ws : List PV} {ds : List D} [h : PvAll ws ds] : PvAll (.dc x :: ws) (.dict x :: ds) := ⟨by rw [List.map_cons, h.e]; rfl⟩
class Frz (s : S) (s' : outParam S) : Prop where e : frzS s = s'
instance frzN : Frz [] [] := ⟨rfl⟩
theorem frzC {w : SV} {s s' : S} (h : frzS s = s') : frzS (w :: s) = frz1 w :: s' := by rw [← h]; rfl
instance frzNo {s s' : S} [h : Frz s s'] : Frz (.no :: s) (.no :: s') := ⟨frzC h.e⟩
instance frzD {x : D} {s s' : S} [h : Frz s s'] : Frz (.d x :: s) (.d x :: s') := ⟨frzC h.e⟩
instance frzL {x : List D} {s s' : S} [h : Frz s s'] : Frz (.l x :: s) (.d (.list x) :: s') := ⟨frzC h.e⟩
instance frzLL {x : List (List D)} {s s' : S} [h : Frz s s'] : Frz (.ll x :: s) (.d (.list (x.map .list)) :: s') := ⟨frzC h.e⟩
instance frzDc {x : List (D × D)} {s s' : S} [h : Frz s s'] : Frz (.dc x :: s) (.d (.dict x) :: s') := ⟨frzC h.e⟩
instance frzTp {ws : List PV} {ds : List D} {s s' : S} [p : PvAll ws ds] [h : Frz s s'] : Frz (.tp ws :: s) (.d (.tuple ds) :: s') := ⟨by
  rw [← p.e]
  exact frzC h.e⟩
def bindT (rs : List R) (s : S) (k : List SV → S → Prop) : Prop := bindA (List.replicate rs.length true) rs s k
section
variable {s' s'' : S}
variable {nx bk ct : S → Prop} {rt : R → S → Prop} {X xx : XF} {s : S} {a b c e : FE} {t u : FT} {f1 f2 : FS} {Q : R → S → Prop} {P : R → Prop} {i j : Nat} {x y d : D} {v : SV} {g g' : V2} {r : R} {rs : List R}
theorem st_ix2_l {xs : List D} (h : ixD (.list xs) x P) : ixD2 (.list xs) x P := .inl h
theorem st_ix2_t {xs : List D} (h : ixD (.tuple xs) x P) : ixD2 (.tuple xs) x P := .inl h
theorem st_ix2_s {z : Str} (h : ixD (.str z) x P) : ixD2 (.str z) x P := .inl h
theorem st_ix2_lit {ns : List Int} (h : ixD (litD ns) x P) : ixD2 (litD ns) x P := .inl h
theorem st_inK_l {xs : List D} (h : cIn x (.list xs) P) : cInK x (.list xs) P := .inl h
theorem st_inK_t {xs : List D} (h : cIn x (.tuple xs) P) : cInK x (.tuple xs) P := .inl h
theorem st_ninK_l {xs : List D} (h : cNotIn x (.list xs) P) : cNotInK x (.list xs) P := .inl h
theorem st_ninK_t {xs : List D} (h : cNotIn x (.tuple xs) P) : cNotInK x (.tuple xs) P := .inl h
theorem st_setD (h : a xx s fun r s1 => onDc i s1 fun _ => e xx s1 fun rj s2 => frz r s2 fun d s3 => frz rj s3 fun k s4 => onDc i s4 fun kvs => dPut kvs k d fun kvs' => putR i (.own (.dc kvs')) s4 nx) : fSetD i e a ⟨nx, rt, bk, ct, xx⟩ s := h
theorem st_onDc {k : List (D × D) → Prop} {xs : List (D × D)} [e : Get s i (.dc xs)] (h : k xs) : onDc i s k := by unfold onDc; rw [e.e]; exact h
theorem st_dget2 (h : onDc i s fun _ => a X s fun rj s1 => b X s1 fun rx s2 => frz rj s2 fun k s3 => frz rx s3 fun d s4 => onDc i s4 fun kvs => dGet kvs k fun o => Q (.d (o.getD d)) s4) : fDGet2 i a b X s Q := h
theorem st_emT (h : Q (.own (.dc [(.none, .none)])) s) : fEmT X s Q := h
def keyK (d : D) (K : L2.Key → Prop) : Prop := match keyN d with
  | some k' => K k'
  | none => False
theorem st_disp1 (h : a X s fun rk s1 => b X s1 fun rv s2 => frz rk s2 fun kd s3 => frz rv s3 fun d s4 => keyK kd fun k' => Q (.own (.dc [(keyD k', d)])) s4) : fDisp1 a b X s Q := h
theorem st_disp1k {z : Int} {K : L2.Key → Prop} (h : K (.inl z)) : keyK (.int z) K := h
theorem st_range3 {fa : FA} {Q : List D → S → Prop} (h : fa X s fun rs s2 => match rs with
  | [.d (.int i), .d (.int j), .d (.int c)] => c = -1 ∧ lim62 i ∧ lim62 j ∧ Q (downD i (i - j).toNat) s2
  | _ => False) : iRange3 fa X s Q := h
theorem st_bor [f : Frz s s'] (h : a (fun _ _ => False) s' fun r _ => flatR r (Q r s)) : fBor a X s Q := by
  unfold fBor
  rw [f.e]
  exact h
theorem st_borT {Q : Bool → S → Prop} [f : Frz s s'] (h : t (fun _ _ => False) s' fun b _ => Q b s) : fBorT t X s Q := by
  unfold fBorT
  rw [f.e]
  exact h
theorem st_bindT_nil {k : List SV → S → Prop} (h : k [] s) : bindT [] s k := h
theorem st_bindT_d {k : List SV → S → Prop} (h : bindT rs s fun svs s2 => k (.d x :: svs) s2) : bindT (.d x :: rs) s k := h
theorem st_bindT_o {k : List SV → S → Prop} (h : bindT rs s fun svs s2 => k (v :: svs) s2) : bindT (.own v :: rs) s k := h
theorem st_bindT_t {k : List SV → S → Prop} [g : Get s i v] [p : Put s i .no s'] (h : bindT rs s' fun svs s2 => k (v :: svs) s2) : bindT (.top i :: rs) s k := by
  show bindA (List.replicate rs.length true) rs (s.set i .no) (fun svs s2 => k (s.getD i .no :: svs) s2)
  rw [p.e, g.e]
  exact h
theorem st_toPs_nil {k : List PV → Prop} (h : k []) : toPs [] k := h
theorem st_toPs_d {k : List PV → Prop} {r : List SV} (h : toPs r fun ws => k (.d x :: ws)) : toPs (.d x :: r) k := h
theorem st_toPs_l {k : List PV → Prop} {r : List SV} {xs : List D} (h : toPs r fun ws => k (.l xs :: ws)) : toPs (.l xs :: r) k := h
theorem st_toPs_dc {k : List PV → Prop} {r : List SV} {xs : List (D × D)} (h : toPs r fun ws => k (.dc xs :: ws)) : toPs (.dc xs :: r) k := h
theorem st_tupO {fa : FA} (h : fa X s fun rs s1 => bindT rs s1 fun svs s2 => toPs svs fun ws => Q (.own (.tp ws)) s2) : fTupO fa X s Q := h
theorem st_var_tp {ws : List PV} [e : Get s i (.tp ws)] (h : Q (.top i) s) : fVar i X s Q := by unfold fVar; rw [e.e]; exact h
theorem st_frz_own_tp {k : D → S → Prop} {ws : List PV} {ds : List D} [e : PvAll ws ds] (h : k (.tuple ds) s) : frz (.own (.tp ws)) s k := by
  show k (.tuple (ws.map PV.asD)) s
  rw [e.e]; exact h
theorem st_frz_top_tp {k : D → S → Prop} {ws : List PV} {ds : List D} [g : Get s i (.tp ws)] [e : PvAll ws ds] [p : Put s i (.d (.tuple ds)) s'] (h : k (.tuple ds) s') : frz (.top i) s k := frz_top' (x := .tuple ds) (by rw [g.e]; show some (PyData.tuple (ws.map PV.asD)) = _; rw [e.e]) (by rw [p.e]; exact h)
theorem st_onP {k : Nat} {kk : List PV → List D → Prop} {ws : List PV} {xs : List D} [g : Get s i (.tp ws)] (e : ws[k]? = some (.l xs)) (h : kk ws xs) : onP i k s kk := by
  unfold onP
  rw [g.e]
  dsimp only
  rw [e]
  exact h
theorem st_lmP {k : Nat} {g : LM} {fa : FA} (h : onP i k s fun _ _ => fa X s fun rs s1 => frzAll rs s1 fun ds s2 => onP i k s2 fun ws xs => g xs ds fun d xs' => putR i (.own (.tp (ws.set k (.l xs')))) s2 fun s3 => Q (.d d) s3) : fLmP i k g fa X s Q := h
theorem st_flat_d {P : Prop} (e : flatD x = true) (h : P) : flatR (.d x) P := ⟨e, h⟩
theorem st_flat_b {P : Prop} {z : Bool} (h : P) : flatR (.d (.bool z)) P := ⟨rfl, h⟩
theorem st_flat_i {P : Prop} {z : Int} (h : P) : flatR (.d (.int z)) P := ⟨rfl, h⟩
theorem st_flat_l {P : Prop} {xs : List D} (e : flatD.flatL xs = true) (h : P) : flatR (.own (.l xs)) P := ⟨e, h⟩
end
theorem flatL_map {α : Type} {f : α → D} (h : ∀ a, flatD (f a) = true) : ∀ xs : List α, flatD.flatL (xs.map f) = true
  | [] => rfl
  | x :: xs => by
    rw [List.map_cons]
    show (flatD (f x) && flatD.flatL (xs.map f)) = true
    rw [h x, flatL_map h xs]; rfl
structure DIs (kvs : List (D × D)) (f : Int → Option D) : Prop where
  key : ∀ p ∈ kvs, ∃ i : Int, p.1 = .int i
  get : ∀ i : Int, (kvs.find? fun p => sameN p.1 (.inl i)).map (·.2) = f i
theorem DIs.nil : DIs [] fun _ => none := ⟨fun p hp => (nomatch hp), fun i => rfl⟩
theorem DIs.one (k : Int) (x : D) : DIs [(keyD (.inl k), x)] fun i => if i = k then some x else none := by
  refine ⟨fun p hp => ?_, fun i => ?_⟩
  · rw [List.mem_singleton] at hp
    exact ⟨k, by rw [hp]; rfl⟩
  · rw [List.find?_cons]
    dsimp only
    rw [sameN_keyD]
    by_cases h : i = k
    · subst h
      simp
    · rw [decide_eq_false (fun e => h (Sum.inl.inj e).symm), if_neg h]
      rfl
theorem find_repl {k : L2.Key} {x : D} (j : L2.Key) : ∀ kvs : List (D × D), ((kvs.map fun p => if sameN p.1 k = true then (p.1, x) else p).find? fun p => sameN p.1 j).map (·.2) = if j = k then ((kvs.find? fun p => sameN p.1 j).map fun _ => x) else (kvs.find? fun p => sameN p.1 j).map (·.2)
  | [] => by simp
  | p :: r => by
    have ih := find_repl (k := k) (x := x) j r
    rw [List.map_cons, List.find?_cons, List.find?_cons]
    have e1 : (if sameN p.1 k = true then (p.1, x) else p).1 = p.1 := by split <;> rfl
    rw [e1]
    cases hs : sameN p.1 j with
    | false => exact ih
    | true =>
      by_cases h : j = k
      · subst h
        rw [if_pos rfl, if_pos hs]; rfl
      · have : ¬ sameN p.1 k = true := fun h2 => by
          unfold sameN at hs h2
          have h3 := of_decide_eq_true hs
          have h4 := of_decide_eq_true h2
          rw [h3] at h4
          exact h (Option.some.inj h4)
        rw [if_neg h, if_neg this]
theorem find_snoc {k : L2.Key} {x : D} (j : L2.Key) : ∀ kvs : List (D × D), (kvs.any fun p => sameN p.1 k) = false → ((kvs ++ [(keyD k, x)]).find? fun p => sameN p.1 j).map (·.2) = if j = k then some x else (kvs.find? fun p => sameN p.1 j).map (·.2)
  | [], _ => by
    rw [List.nil_append, List.find?_cons]
    dsimp only
    rw [sameN_keyD]
    by_cases h : j = k
    · subst h; simp
    · rw [decide_eq_false (fun e => h e.symm), if_neg h]
  | p :: r, ha => by
    rw [List.any_cons, Bool.or_eq_false_iff] at ha
    have ih := find_snoc (k := k) (x := x) j r ha.2
    rw [List.cons_append, List.find?_cons, List.find?_cons]
    cases hs : sameN p.1 j with
    | false => exact ih
    | true =>
      have : ¬ j = k := fun h => by rw [h] at hs; rw [hs] at ha; cases ha.1
      rw [if_neg this]
theorem find_any {k : L2.Key} : ∀ kvs : List (D × D), (kvs.any fun p => sameN p.1 k) = true → ((kvs.find? fun p => sameN p.1 k)).isSome = true
  | [], h => by cases h
  | p :: r, h => by
    rw [List.find?_cons]
    cases hs : sameN p.1 k with
    | true => rfl
    | false =>
      rw [List.any_cons, hs] at h
      exact find_any r h
theorem DIs.put {kvs : List (D × D)} {f : Int → Option D} (h : DIs kvs f) (k : Int) (x : D) : DIs (putN kvs (.inl k) x) fun i => if i = k then some x else f i := by
  unfold putN
  split
  · rename_i ha
    refine ⟨fun p hp => ?_, fun i => ?_⟩
    · obtain ⟨q, hq, rfl⟩ := List.mem_map.mp hp
      obtain ⟨j, e⟩ := h.key q hq
      refine ⟨j, ?_⟩
      split <;> exact e
    · rw [find_repl]
      by_cases hi : i = k
      · subst hi
        rw [if_pos rfl, if_pos rfl]
        have := find_any kvs ha
        cases e : kvs.find? (fun p => sameN p.1 (.inl i)) with
        | none => rw [e] at this; cases this
        | some q => rfl
      · rw [if_neg (fun e => hi (Sum.inl.inj e)), if_neg hi]
        exact h.get i
  · rename_i ha
    have ha : (kvs.any fun p => sameN p.1 (.inl k)) = false := by simpa using ha
    refine ⟨fun p hp => ?_, fun i => ?_⟩
    · rcases List.mem_append.mp hp with hp | hp
      · exact h.key p hp
      · rw [List.mem_singleton] at hp
        exact ⟨k, by rw [hp]; rfl⟩
    · rw [find_snoc _ _ ha]
      by_cases hi : i = k
      · subst hi; rw [if_pos rfl, if_pos rfl]
      · rw [if_neg (fun e => hi (Sum.inl.inj e)), if_neg hi]
        exact h.get i
end Hs
namespace Hs
open PySem PySem.Spec PyProof.Rows L2
def putP (f : Str) (w : PV) : List (Str × PV) → List (Str × PV)
  | [] => [(f, w)]
  | (g, x) :: r => if g = f then (g, w) :: r else (g, x) :: putP f w r
def getP (f : Str) : List (Str × PV) → Option PV
  | [] => none
  | (g, x) :: r => if g = f then some x else getP f r
def kvLook (f : Str) : List (D × D) → Option D
  | (.str g, x) :: r => if g = f then some x else kvLook f r
  | _ => none
/-- an object of the class c, its own slot's or one that nobody changes -/
def obAt (c : Str) (sv : SV) (kO : List (Str × PV) → Prop) (kD : List (D × D) → Prop) : Prop := match sv with
  | .ob c' fs => c' = c ∧ kO fs
  | .d (.dict ((.none, .bool true) :: (.none, .str c') :: kvs)) => c' = c ∧ kD kvs
  | _ => False
def onOb (c : Str) (i : Nat) (s : S) (k : List (Str × PV) → Prop) : Prop := match s.getD i .no with
  | .ob c' fs => c' = c ∧ k fs
  | _ => False
def onFL (c : Str) (i : Nat) (f : Str) (s : S) (k : List (Str × PV) → List D → Prop) : Prop := onOb c i s fun fs => match getP f fs with
  | some (.l xs) => k fs xs
  | _ => False
theorem onOb_ok {c : Str} {i : Nat} {s : S} {k : List (Str × PV) → Prop} (h : onOb c i s k) : ∃ fs, s.getD i .no = .ob c fs ∧ k fs := by
  unfold onOb at h
  generalize s.getD i .no = w at h
  cases w with
  | ob c' fs => obtain ⟨rfl, h⟩ := h; exact ⟨fs, rfl, h⟩
  | _ => exact h.elim
theorem onFL_ok {c : Str} {i : Nat} {f : Str} {s : S} {k : List (Str × PV) → List D → Prop} (h : onFL c i f s k) : ∃ fs xs, s.getD i .no = .ob c fs ∧ getP f fs = some (.l xs) ∧ k fs xs := by
  obtain ⟨fs, e, h⟩ := onOb_ok h
  generalize e2 : getP f fs = o at h
  match o, h with
  | some (.l xs), h => exact ⟨fs, xs, e, e2, h⟩
theorem look_cons {α : Type} (f g : Str) (v : α) (r : List (Str × α)) : ((g, v) :: r).lookup f = if g = f then some v else r.lookup f := by
  by_cases h : g = f
  · have hb : (f == g) = true := beq_iff_eq.mpr h.symm
    simp only [List.lookup, hb, if_pos h]
  · have hb : (f == g) = false := beq_eq_false_iff_ne.mpr (Ne.symm h)
    simp only [List.lookup, hb, if_neg h]
section
variable {K : PySem.W.Frag} {Z Z' Y Y' H H' : Hp} {σ σ' : St} {s s' : S} {f c : Str} {w : PV} {xs : List D}
theorem RpK.field : ∀ {fs : List (Str × V)} {kvs : List (D × D)}, RpK K Z (obK fs) kvs → ∀ {x : D}, kvLook f kvs = some x → ∃ v, fs.lookup f = some v ∧ Rp K Z v x
  | [], _, .nil, _, e => by cases e
  | (n, v) :: fs, _, .cons h r, x, e => by
    rw [look_cons]
    have e : (if n = f then some _ else kvLook f _) = some x := e
    by_cases hn : n = f
    · rw [if_pos hn] at e
      cases e
      exact ⟨v, if_pos hn, h⟩
    · rw [if_neg hn] at e
      rw [if_neg hn]
      exact RpK.field r e
theorem RpK.nofield : ∀ {fs : List (Str × V)} {kvs : List (D × D)}, RpK K Z (obK fs) kvs → kvLook f kvs = none → fs.lookup f = none
  | [], _, .nil, _ => rfl
  | (n, v) :: fs, _, .cons h r, e => by
    rw [look_cons]
    have e : (if n = f then some _ else kvLook f _) = none := e
    by_cases hn : n = f
    · rw [if_pos hn] at e
      cases e
    · rw [if_neg hn] at e
      rw [if_neg hn]
      exact RpK.nofield r e
theorem TpAt.field : ∀ {fs : List (Str × PV)} {vs : List V} {G : List Addr}, TpAt K Z H vs (fs.map (·.2)) G → getP f fs = some w → ∃ v F, ((fs.map (·.1)).zip vs).lookup f = some v ∧ PartAt K Z H v w F
  | [], _, _, .nil, e => by cases e
  | (n, w0) :: fs, v :: vs, _, .cons h r, e => by
    show ∃ v' F, ((n, v) :: ((fs.map (·.1)).zip vs)).lookup f = some v' ∧ _
    rw [look_cons]
    have e : (if n = f then some w0 else getP f fs) = some w := e
    by_cases hn : n = f
    · rw [if_pos hn] at e
      cases e
      exact ⟨v, _, if_pos hn, h⟩
    · rw [if_neg hn] at e
      rw [if_neg hn]
      exact TpAt.field r e
theorem TpAt.nofield : ∀ {fs : List (Str × PV)} {vs : List V} {G : List Addr}, TpAt K Z H vs (fs.map (·.2)) G → getP f fs = none → ((fs.map (·.1)).zip vs).lookup f = none
  | [], _, _, .nil, e => rfl
  | (n, w0) :: fs, v :: vs, _, .cons h r, e => by
    show ((n, v) :: ((fs.map (·.1)).zip vs)).lookup f = none
    rw [look_cons]
    have e : (if n = f then some w0 else getP f fs) = none := e
    by_cases hn : n = f
    · rw [if_pos hn] at e
      cases e
    · rw [if_neg hn] at e
      rw [if_neg hn]
      exact TpAt.nofield r e
theorem TpAt.put {y : V} {F' : List Addr} (hy : PartAt K Z H y w F') : ∀ {fs : List (Str × PV)} {vs : List V} {G : List Addr}, TpAt K Z H vs (fs.map (·.2)) G → G.Nodup → F'.Nodup → (∀ a ∈ F', a ∉ G) →
    ∃ vs' G', putF f y ((fs.map (·.1)).zip vs) = (((putP f w fs).map (·.1)).zip vs') ∧ TpAt K Z H vs' ((putP f w fs).map (·.2)) G' ∧ (∀ a ∈ G', a ∈ G ∨ a ∈ F') ∧ G'.Nodup
  | [], _, _, .nil, _, nd', _ => ⟨[y], F' ++ [], rfl, .cons hy .nil, fun a ha => .inr (by simpa using ha), by simpa using nd'⟩
  | (n, w0) :: fs, v :: vs, _, .cons (F := F0) (G := G0) h r, nd, nd', dj => by
    by_cases hn : n = f
    · refine ⟨y :: vs, F' ++ G0, ?_, ?_, fun a ha => ?_, ?_⟩
      · show (if n = f then (n, y) :: _ else _) = _
        rw [if_pos hn]
        show _ = ((if n = f then (n, w) :: fs else _).map (·.1)).zip _
        rw [if_pos hn]; rfl
      · show TpAt K Z H (y :: vs) ((if n = f then (n, w) :: fs else _).map (·.2)) _
        rw [if_pos hn]
        exact .cons hy r
      · rcases List.mem_append.mp ha with ha | ha
        · exact .inr ha
        · exact .inl (List.mem_append.mpr (.inr ha))
      · exact List.nodup_append.mpr ⟨nd', (List.nodup_append.mp nd).2.1, fun a ha b hb e => dj a ha (List.mem_append.mpr (.inr (e ▸ hb)))⟩
    · obtain ⟨vs', G', e1, t, m, n'⟩ := TpAt.put hy r (List.nodup_append.mp nd).2.1 nd' fun a ha hg => dj a ha (List.mem_append.mpr (.inr hg))
      refine ⟨v :: vs', F0 ++ G', ?_, ?_, fun a ha => ?_, ?_⟩
      · show (if n = f then (n, y) :: _ else (n, v) :: putF f y ((fs.map (·.1)).zip vs)) = _
        rw [if_neg hn, e1]
        show _ = ((if n = f then _ else (n, w0) :: putP f w fs).map (·.1)).zip _
        rw [if_neg hn]; rfl
      · show TpAt K Z H (v :: vs') ((if n = f then _ else (n, w0) :: putP f w fs).map (·.2)) _
        rw [if_neg hn]
        exact .cons h t
      · rcases List.mem_append.mp ha with ha | ha
        · exact .inl (List.mem_append.mpr (.inl ha))
        · rcases m a ha with h1 | h1
          · exact .inl (List.mem_append.mpr (.inr h1))
          · exact .inr h1
      · refine List.nodup_append.mpr ⟨(List.nodup_append.mp nd).1, n', fun a ha b hb e => ?_⟩
        subst e
        rcases m a hb with h1 | h1
        · exact (List.nodup_append.mp nd).2.2 a ha a h1 rfl
        · exact dj a h1 (List.mem_append.mpr (.inl ha))
theorem TpAt.fieldL : ∀ {fs : List (Str × PV)} {vs : List V} {G : List Addr}, TpAt K Z H vs (fs.map (·.2)) G → G.Nodup → getP f fs = some (.l xs) → ∃ q us, ((fs.map (·.1)).zip vs).lookup f = some (.ref q) ∧ q ∈ G ∧ H q = some (.lst us) ∧ us.length ≤ sizeLine ∧ RpAll K Z us xs ∧
    ∀ us' xs', us'.length ≤ sizeLine → RpAll K Z us' xs' → TpAt K Z (upd H q (.lst us')) vs ((putP f (.l xs') fs).map (·.2)) G ∧ (putP f (.l xs') fs).map (·.1) = fs.map (·.1)
  | [], _, _, .nil, _, e => by cases e
  | (n, w0) :: fs, v :: vs, _, .cons (F := F0) (G := G0) h r, nd, e => by
    have e : (if n = f then some w0 else getP f fs) = some (.l xs) := e
    by_cases hn : n = f
    · rw [if_pos hn] at e
      cases e
      obtain ⟨p, us, h1, h2, h3, h4, h5⟩ := h
      subst h1 h2
      refine ⟨p, us, ?_, by simp, h3, h4, h5, fun us' xs' hl ra => ⟨?_, ?_⟩⟩
      · show ((n, .ref p) :: ((fs.map (·.1)).zip vs)).lookup f = _
        rw [look_cons, if_pos hn]
      · show TpAt K Z _ _ ((if n = f then (n, PV.l xs') :: fs else _).map (·.2)) _
        rw [if_pos hn]
        have hpG : p ∉ G0 := fun hg => (List.nodup_append.mp nd).2.2 p (by simp) p hg rfl
        exact .cons (F := [p]) ⟨p, us', rfl, rfl, upd_same, hl, ra⟩ (r.other hpG)
      · show ((if n = f then (n, PV.l xs') :: fs else _).map (·.1)) = _
        rw [if_pos hn]; rfl
    · rw [if_neg hn] at e
      obtain ⟨q, us, h1, h2, h3, h4, h5, h6⟩ := TpAt.fieldL r (List.nodup_append.mp nd).2.1 e
      have hqF : q ∉ F0 := fun hf => (List.nodup_append.mp nd).2.2 q hf q h2 rfl
      refine ⟨q, us, ?_, List.mem_append.mpr (.inr h2), h3, h4, h5, fun us' xs' hl ra => ⟨?_, ?_⟩⟩
      · show ((n, v) :: ((fs.map (·.1)).zip vs)).lookup f = _
        rw [look_cons, if_neg hn, h1]
      · show TpAt K Z _ _ ((if n = f then _ else (n, w0) :: putP f (.l xs') fs).map (·.2)) _
        rw [if_neg hn]
        exact .cons (h.other hqF) (h6 us' xs' hl ra).1
      · show ((if n = f then _ else (n, w0) :: putP f (.l xs') fs).map (·.1)) = _
        rw [if_neg hn]
        show n :: (putP f (.l xs') fs).map (·.1) = _
        rw [(h6 us' xs' hl ra).2]; rfl
/-- an object that a slot holds, or that nobody changes -/
theorem Rp.obj_inv {v : V} {kvs : List (D × D)} (h : Rp K Z v (.dict ((.none, .bool true) :: (.none, .str c) :: kvs))) : ∃ (p dx : Addr) (fl : List (Str × V)), v = .ref p ∧ Z p = some (.ins (He.ga K c) dx fl) ∧ RpK K Z (obK fl) kvs := by
  generalize e0 : (PyData.dict ((.none, .bool true) :: (.none, .str c) :: kvs)) = d at h
  cases h with
  | obj h1 h2 a => cases e0; exact ⟨_, _, _, rfl, h1, a⟩
  | dcK h a => cases e0; exact a.nolit.elim
  | dcT h a => cases e0
  | lit h z => cases e0
  | exc h => cases e0
  | _ => cases e0
theorem Rel.obj (r : Rel K Z Y H σ s) {i : Nat} {kO : List (Str × PV) → Prop} {kD : List (D × D) → Prop} (h : obAt c (s.getD i .no) kO kD) : ∃ (p dx : Addr) (fl : List (Str × V)), σ.getD i none = some (.ref p) ∧ H p = some (.ins (He.ga K c) dx fl) ∧
    ((∃ fs vs G, s.getD i .no = .ob c fs ∧ fl = (fs.map (·.1)).zip vs ∧ TpAt K Z H vs (fs.map (·.2)) G ∧ kO fs) ∨ ∃ kvs, RpK K Z (obK fl) kvs ∧ kD kvs) := by
  obtain ⟨F, sl⟩ := r.slot i
  unfold obAt at h
  split at h
  · rename_i c' fs e
    obtain ⟨rfl, h⟩ := h
    rw [e] at sl
    obtain ⟨p, dx, vs, G, h1, h2, h3, h4, h5⟩ := sl
    exact ⟨p, dx, _, h1, h3, .inl ⟨fs, vs, G, e, rfl, h5, h⟩⟩
  · rename_i c' kvs e
    obtain ⟨rfl, h⟩ := h
    rw [e] at sl
    obtain ⟨_, u, h1, rp⟩ := sl
    obtain ⟨p, dx, fl, rfl, h2, h3⟩ := rp.obj_inv
    exact ⟨p, dx, fl, h1, r.zh _ _ h2, .inr ⟨kvs, h3, h⟩⟩
  · exact h.elim
theorem Rel.putF {v : V} (r : Rel K Z Y H (σ ++ [some v]) (s ++ [w.sv])) (hl : σ.length = s.length) {i : Nat} {fs : List (Str × PV)} (hs : s.getD i .no = .ob c fs) : ∃ p dx vs, σ.getD i none = some (.ref p) ∧ H p = some (.ins (He.ga K c) dx ((fs.map (·.1)).zip vs)) ∧ vs.length = fs.length ∧
    Rel K Z Y (upd H p (.ins (He.ga K c) dx (L2.putF f v ((fs.map (·.1)).zip vs)))) σ (s.set i (.ob c (putP f w fs))) := by
  obtain ⟨F, o⟩ := r.own
  have hi : i < s.length := by
    by_cases h : i < s.length
    · exact h
    · rw [getD_out (by omega)] at hs; cases hs
  have sl := o.at_ i
  rw [getD_app_lt (by omega), getD_app_lt hi, hs] at sl
  obtain ⟨p, dx, vs, G, h1, h2, h3, h4, h5⟩ := sl
  have sw := o.at_ σ.length
  rw [getD_app_ge (Nat.le_refl _), Nat.sub_self, getD_app_ge (by omega), ← hl, Nat.sub_self] at sw
  have pw : PartAt K Z H v w (F σ.length) := part_at sw
  have ndi := o.nd i
  rw [h2] at ndi
  have hne : i ≠ σ.length := by omega
  obtain ⟨vs', G', e1, t, m, n'⟩ := TpAt.put (f := f) pw h5 (List.nodup_cons.mp (List.nodup_cons.mp ndi).2).2 (o.nd _) fun a ha hg => hne (o.dj i _ a (by rw [h2]; simp [hg]) ha)
  have inF : ∀ a ∈ G', a ∈ F i ∨ a ∈ F σ.length := fun a ha => (m a ha).imp (fun h => by rw [h2]; simp [h]) id
  have pG : p ∉ G' := fun h => by
    rcases m p h with h | h
    · exact (List.nodup_cons.mp ndi).1 (by simp [h])
    · exact hne (o.dj i _ p (by rw [h2]; simp) h)
  have dG : dx ∉ G' := fun h => by
    rcases m dx h with h | h
    · exact (List.nodup_cons.mp (List.nodup_cons.mp ndi).2).1 h
    · exact hne (o.dj i _ dx (by rw [h2]; simp) h)
  have pd : dx ≠ p := fun e => (List.nodup_cons.mp ndi).1 (by rw [e]; simp)
  have pf := o.fr i p (by rw [h2]; simp)
  refine ⟨p, dx, vs, h1, h3, by rw [h5.length, List.length_map], fun b x e => ?_, fun b x e => ?_, r.zy, r.yt, by rw [List.length_set]; exact hl, fun j => if j = i then p :: dx :: G' else if j < σ.length then F j else [], fun j => ?_, fun j => ?_, fun j k a ha ha' => ?_, fun j a ha => ?_⟩
  · rw [upd_ne (fun z => by rw [z, pf.1] at e; cases e)]; exact r.zh b x e
  · rw [upd_ne (fun z => by rw [z, pf.2] at e; cases e)]; exact r.yh b x e
  · by_cases hj : j = i
    · subst hj
      rw [if_pos rfl, getD_set_self hi]
      refine ⟨p, dx, vs', G', h1, rfl, by rw [upd_same, e1], by rw [upd_ne pd]; exact h4, t.other pG⟩
    · rw [if_neg hj, getD_set_ne (Ne.symm hj)]
      by_cases hlt : j < σ.length
      · rw [if_pos hlt]
        have q := o.at_ j
        rw [getD_app_lt hlt, getD_app_lt (by omega)] at q
        refine q.mono (Same.refl _) fun b hb ob e => ?_
        rw [upd_ne]
        · exact e
        · rintro rfl
          exact hj (o.dj j i b hb (by rw [h2]; simp))
      · rw [if_neg hlt, getD_out (l := s) (by omega)]
        exact rfl
  · by_cases hj : j = i
    · rw [if_pos hj]
      exact List.nodup_cons.mpr ⟨fun h => by
        rcases List.mem_cons.mp h with h | h
        · exact pd h.symm
        · exact pG h, List.nodup_cons.mpr ⟨dG, n'⟩⟩
    · rw [if_neg hj]
      by_cases hlt : j < σ.length
      · rw [if_pos hlt]; exact o.nd j
      · rw [if_neg hlt]; exact .nil
  · have own : ∀ j, a ∈ (if j = i then p :: dx :: G' else if j < σ.length then F j else []) → (j = i ∧ (a ∈ F i ∨ a ∈ F σ.length)) ∨ (j ≠ i ∧ j < σ.length ∧ a ∈ F j) := fun j h => by
      by_cases hj : j = i
      · rw [if_pos hj] at h
        refine .inl ⟨hj, ?_⟩
        rcases List.mem_cons.mp h with rfl | h
        · exact .inl (by rw [h2]; simp)
        · rcases List.mem_cons.mp h with rfl | h
          · exact .inl (by rw [h2]; simp)
          · exact inF a h
      · rw [if_neg hj] at h
        by_cases hlt : j < σ.length
        · rw [if_pos hlt] at h; exact .inr ⟨hj, hlt, h⟩
        · rw [if_neg hlt] at h; cases h
    rcases own j ha with ⟨e1, h1⟩ | ⟨e1, l1, h1⟩ <;> rcases own k ha' with ⟨e2, h2'⟩ | ⟨e2, l2, h2'⟩
    · rw [e1, e2]
    · rcases h1 with h1 | h1
      · exact absurd (o.dj _ _ a h2' h1) e2
      · have := o.dj _ _ a h2' h1; omega
    · rcases h2' with h2' | h2'
      · exact absurd (o.dj _ _ a h1 h2') e1
      · have := o.dj _ _ a h1 h2'; omega
    · exact o.dj _ _ a h1 h2'
  · by_cases hj : j = i
    · rw [if_pos hj] at ha
      rcases List.mem_cons.mp ha with rfl | ha
      · exact pf
      · rcases List.mem_cons.mp ha with rfl | ha
        · exact o.fr i _ (by rw [h2]; simp)
        · rcases inF a ha with h | h
          · exact o.fr _ a h
          · exact o.fr _ a h
    · rw [if_neg hj] at ha
      by_cases hlt : j < σ.length
      · rw [if_pos hlt] at ha; exact o.fr j a ha
      · rw [if_neg hlt] at ha; cases ha
theorem Rel.fieldL (r : Rel K Z Y H σ s) {i : Nat} {fs : List (Str × PV)} (hs : s.getD i .no = .ob c fs) (hk : getP f fs = some (.l xs)) : ∃ (p dx : Addr) (fl : List (Str × V)) (q : Addr) (us : List V), σ.getD i none = some (.ref p) ∧ H p = some (.ins (He.ga K c) dx fl) ∧ fl.lookup f = some (.ref q) ∧ H q = some (.lst us) ∧ us.length ≤ sizeLine ∧ RpAll K Z us xs ∧
    ∀ us' xs', us'.length ≤ sizeLine → RpAll K Z us' xs' → Rel K Z Y (upd H q (.lst us')) σ (s.set i (.ob c (putP f (.l xs') fs))) := by
  obtain ⟨F, o⟩ := r.own
  have sl := o.at_ i
  rw [hs] at sl
  obtain ⟨p, dx, vs, G, h1, h2, h3, h4, h5⟩ := sl
  have ndi := o.nd i
  rw [h2] at ndi
  obtain ⟨q, us, k1, k2, k3, k4, k5, k6⟩ := h5.fieldL (f := f) (List.nodup_cons.mp (List.nodup_cons.mp ndi).2).2 hk
  have hi : i < s.length := by
    by_cases h : i < s.length
    · exact h
    · rw [getD_out (by omega)] at hs; cases hs
  have qi : q ∈ F i := by rw [h2]; simp [k2]
  have qf := o.fr i q qi
  have qp : q ≠ p := fun e => (List.nodup_cons.mp ndi).1 (by rw [← e]; simp [k2])
  have qd : q ≠ dx := fun e => (List.nodup_cons.mp (List.nodup_cons.mp ndi).2).1 (by rw [← e]; exact k2)
  refine ⟨p, dx, _, q, us, h1, h3, k1, k3, k4, k5, fun us' xs' hl ra => ⟨fun b x e => ?_, fun b x e => ?_, r.zy, r.yt, by rw [List.length_set]; exact r.len, F, fun j => ?_, o.nd, o.dj, o.fr⟩⟩
  · rw [upd_ne (fun z => by rw [z, qf.1] at e; cases e)]; exact r.zh b x e
  · rw [upd_ne (fun z => by rw [z, qf.2] at e; cases e)]; exact r.yh b x e
  · by_cases hj : i = j
    · subst hj
      rw [getD_set_self hi]
      refine ⟨p, dx, vs, G, h1, h2, ?_, by rw [upd_ne (Ne.symm qd)]; exact h4, (k6 us' xs' hl ra).1⟩
      rw [upd_ne (Ne.symm qp), (k6 us' xs' hl ra).2]
      exact h3
    · rw [getD_set_ne hj]
      refine (o.at_ j).mono (Same.refl _) fun b hb ob e => ?_
      rw [upd_ne]
      · exact e
      · rintro rfl
        exact hj (o.dj i j b qi hb)
end
def fFld (c : Str) (i : Nat) (f : Str) : FE := fun _ s Q => obAt c (s.getD i .no) (fun fs => match getP f fs with | some (.d x) => Q (.d x) s | _ => False) (fun kvs => match kvLook f kvs with | some x => Q (.d x) s | none => False)
/-- o.f[x], the field's list its object's own -/
def fFldIx (c : Str) (i : Nat) (f : Str) (j : Nat) : FE := fun _ s Q => onFL c i f s fun _ xs => match s.getD j .no with
  | .d (.int n) => (match L2.atI xs n with | some x => Q (.d x) s | none => False)
  | _ => False
def toPV (r : R) (s : S) (k : PV → S → Prop) : Prop := match r with
  | .own (.l xs) => k (.l xs) s
  | .own (.dc kvs) => k (.dc kvs) s
  | r => frz r s fun x s1 => k (.d x) s1
def fSetF (c : Str) (i : Nat) (f : Str) (a : FE) : FS := fun E s => a E.xx s fun r s1 => toPV r s1 fun w s2 => onOb c i s2 fun fs => fs.length < 1000 ∧ E.nx (s2.set i (.ob c (putP f w fs)))
/-- o.f[x] = e -/
def fSetFI (c : Str) (i : Nat) (f : Str) (j : Nat) (a : FE) : FS := fun E s => a E.xx s fun r s1 => frz r s1 fun d s2 => onFL c i f s2 fun fs xs => match s2.getD j .no with
  | .d (.int n) => 0 ≤ n ∧ n.toNat < xs.length ∧ E.nx (s2.set i (.ob c (putP f (.l (xs.set n.toNat d)) fs)))
  | _ => False
/-- o.f.m(x) -/
def fLmF (c : Str) (i : Nat) (f : Str) (g : LM) (j : Nat) : FE := fun X s Q => fVar j X s fun r s1 => frz r s1 fun d s2 => onFL c i f s2 fun fs xs => g xs [d] fun x xs' => Q (.d x) (s2.set i (.ob c (putP f (.l xs') fs)))
theorem toPV_ok {K : PySem.W.Frag} {Z Y H : Hp} {σ : St} {s : S} {v : V} {r : R} {k : PV → S → Prop} (rx : RelX K Z Y H σ s [v] [r]) (h : toPV r s k) : ∃ Z' w s', Same Z Z' ∧ Rel K Z' Y H (σ ++ [some v]) (s' ++ [PV.sv w]) ∧ σ.length = s'.length ∧ k w s' := by
  have go : (frz r s fun x s1 => k (.d x) s1) → ∃ Z' w s', Same Z Z' ∧ Rel K Z' Y H (σ ++ [some v]) (s' ++ [PV.sv w]) ∧ σ.length = s'.length ∧ k w s' := fun h => by
    obtain ⟨Z1, d, s1, hz, rx1, h1⟩ := frz_ok (us := []) (ds := []) (vs := []) (rs := []) rx rfl h
    exact ⟨Z1, .d d, s1, hz, rx1.rel, rx1.l1, h1⟩
  unfold toPV at h
  split at h
  · exact ⟨Z, .l _, s, Same.refl _, rx.rel, rx.l1, h⟩
  · exact ⟨Z, .dc _, s, Same.refl _, rx.rel, rx.l1, h⟩
  · exact go h
theorem var_ok {K : PySem.W.Frag} {Z Y H : Hp} {σ : St} {s : S} {j : Nat} {Xf : XF} {Qf : R → S → Prop} (r : Rel K Z Y H σ s) (h : fVar j Xf s Qf) : ∃ v q, σ.getD j none = some v ∧ RelX K Z Y H σ s [v] [q] ∧ Qf q s := by
  obtain ⟨F, sl⟩ := r.slot j
  unfold fVar at h
  generalize hs : s.getD j .no = w at h sl
  have tp : ∀ p : V, σ.getD j none = some p → Qf (.top j) s → ∃ v q, σ.getD j none = some v ∧ RelX K Z Y H σ s [v] [q] ∧ Qf q s := fun p e h => ⟨p, .top j, e, .tp r (getD_lt e) e, h⟩
  cases w with
  | no => exact h.elim
  | d x =>
    obtain ⟨_, u, h2, rp⟩ := sl
    exact ⟨u, .d x, h2, .d r rp, h⟩
  | l xs => obtain ⟨p, vs, h1, _⟩ := sl; exact tp _ h1 h
  | ll xs => obtain ⟨p, vs, h1, _⟩ := sl; exact tp _ h1 h
  | dc xs => obtain ⟨p, h1, _⟩ := sl; exact tp _ h1 h
  | ob c fs => obtain ⟨p, dx, vs, G, h1, _⟩ := sl; exact tp _ h1 h
  | tp ws => obtain ⟨p, vs, h1, _⟩ := sl; exact tp _ h1 h
theorem lift_var {X : Cx} {L : Lv} {j : Nat} {σ : St} {H : Hp} {Q : VK} (h : liftE X L (fVar j) σ H Q) : tVar j σ H Q := by
  obtain ⟨Z, Y, s, Xf, Qf, r, k, xo, h, q⟩ := h
  obtain ⟨v, q', hv, rx, h1⟩ := var_ok r h
  exact ⟨v, getD_some hv, q v H Z q' s (Same.refl _) rx h1⟩
section
variable {X : Cx} {L : Lv} {e a b c' o : Expr} {es : List Expr} {fa fb fc fj fx : FE} {ft : FT} {fr : FA} {pos p px : Pos} {c f y z : Str} {pz : Pos}
theorem pf_fld (i : Nat) (cl : Cls X.K (He.ga X.K c)) (na : NoAttr X.K (He.ga X.K c) f) (ho : PE X (.Name y px) (tVar i)) (hb : attributeBase (.Name y px) f X.env (eval (.Name y px) X.env) = eval (.Name y px) X.env := by rfl) : PF X L (.Attribute (.Name y px) f pos) (fFld c i f) :=
  PE_imp (pe_fld ho hb) fun σ H Q ⟨Z, Y, s, Xf, Qf, r, k, xo, h, q⟩ => by
  obtain ⟨p, dx, fl, h1, h2, h3⟩ := r.obj h
  have : ∃ v, fl.lookup f = some v ∧ Q v H := by
    rcases h3 with ⟨fs, vs, G, _, rfl, t, h⟩ | ⟨kvs, t, h⟩
    · generalize eg : getP f fs = g at h
      match g, h with
      | some (.d x), h =>
        obtain ⟨v, F, e1, pa⟩ := t.field eg
        exact ⟨v, e1, q v H Z _ s (Same.refl _) (.d r pa.2) h⟩
    · generalize eg : kvLook f kvs = g at h
      match g, h with
      | some x, h =>
        obtain ⟨v, e1, rp⟩ := t.field eg
        exact ⟨v, e1, q v H Z _ s (Same.refl _) (.d r rp) h⟩
  obtain ⟨v, hv, hq⟩ := this
  exact ⟨.ref p, getD_some h1, p, _, dx, fl, v, rfl, h2, cl, na, hv, hq⟩
theorem Rel.int {K : PySem.W.Frag} {Z Y H : Hp} {σ : St} {s : S} {j : Nat} {n : Int} (r : Rel K Z Y H σ s) (e : s.getD j .no = .d (.int n)) : σ.getD j none = some (.int n) := by
  obtain ⟨F, sl⟩ := r.slot j
  rw [e] at sl
  obtain ⟨_, u, h1, rp⟩ := sl
  cases rp
  exact h1
theorem pf_fldIx (i j : Nat) (cl : Cls X.K (He.ga X.K c)) (na : NoAttr X.K (He.ga X.K c) f) (ho : PE X (.Name y px) (tVar i)) (hj : PE X (.Name z pz) (tVar j)) (hb : attributeBase (.Name y px) f X.env (eval (.Name y px) X.env) = eval (.Name y px) X.env := by rfl) : PF X L (.Subscript (.Attribute (.Name y px) f pos) (.Name z pz) p) (fFldIx c i f j) :=
  PE_imp (pe_ix (ix_list (X := X)) (pe_fld ho hb) hj fun _ _ => rfl) fun σ H Q ⟨Z, Y, s, Xf, Qf, r, k, xo, h, q⟩ => by
  obtain ⟨fs, xs, e1, e2, h⟩ := onFL_ok h
  obtain ⟨p, dx, fl, q0, us, h1, h2, h3, h4, h5, h6, _⟩ := r.fieldL e1 e2
  generalize ej : s.getD j .no = w at h
  split at h
  · rename_i n
    generalize ex : L2.atI xs n = o at h
    match o, h with
    | some x, h =>
      have hx : ∃ v, L2.atI us n = some v ∧ Rp X.K Z v x := by
        unfold L2.atI at ex ⊢
        rw [h6.length]
        cases ei : L2.ixN xs.length n with
        | none => rw [ei] at ex; cases ex
        | some i0 =>
          rw [ei] at ex
          exact h6.get ex
      obtain ⟨v, ev, rv⟩ := hx
      exact ⟨.ref p, getD_some h1, p, _, dx, fl, .ref q0, rfl, h2, cl, na, h3, .int n, getD_some (r.int ej), q0, us, n, v, rfl, rfl, .inl (.inl h4), ev, q v H Z _ s (Same.refl _) (.d r rv) h⟩
  · exact h.elim
theorem pfs_setF (i : Nat) {po : Pos} (cl : Cls X.K (He.ga X.K c)) (na : NoAttr X.K (He.ga X.K c) f) (he : PF X L e fa) (ho : PE X (.Name y px) (tVar i)) (hs : swapsWith e (some (.Attribute (.Name y px) f po)) pos.line X.env = pure false := by rfl) : PFS X L (.Assign [.Attribute (.Name y px) f po] e pos) (fSetF c i f fa) :=
  PS_imp (ps_fld ho he hs) fun D σ H ⟨Z, Y, s, Ef, r, k, h, eo⟩ => by
  refine ⟨Z, Y, s, Ef.xx, _, r, k, eo.xx, h, fun v H1 Z1 r1 s1 hz rx h1 => ?_⟩
  obtain ⟨Z2, w, s2, hz2, r2, l2, h2⟩ := toPV_ok rx h1
  obtain ⟨fs, e1, hl, h3⟩ := onOb_ok h2
  obtain ⟨p, dx, vs, g1, g2, g3, g4⟩ := Rel.putF (f := f) r2 l2 e1
  refine ⟨.ref p, getD_some g1, p, _, dx, _, rfl, g2, cl, na, ?_, eo.nx σ _ Z2 _ (hz.trans hz2) k g4 h3⟩
  rw [List.length_zip, List.length_map]
  omega
theorem pfs_setFI (i j : Nat) {po pf : Pos} (cl : Cls X.K (He.ga X.K c)) (na : NoAttr X.K (He.ga X.K c) f) (he : PF X L e fa) (ho : PE X (.Name y px) (tVar i)) (hj : PE X (.Name z pz) (tVar j))
    (hb : attributeBase (.Name y px) f X.env (eval (.Name y px) X.env) = eval (.Name y px) X.env := by rfl)
    (ha : ∀ v, assign (.Subscript (.Attribute (.Name y px) f pf) (.Name z pz) po) X.env v = (do
      let ov ← holding [v] (eval (.Attribute (.Name y px) f pf) X.env)
      let iv ← holding [v, ov] (eval (.Name z pz) X.env)
      standAt po
      holding [v, ov, iv] (setItem ov iv v)
      release [v, ov, iv] []) := by intro _; rfl) (hs : swapsWithSole [.Subscript (.Attribute (.Name y px) f pf) (.Name z pz) po] e pos.line X.env = pure false := by rfl) (hw : swappedStores [.Subscript (.Attribute (.Name y px) f pf) (.Name z pz) po] e X.env = pure none := by rfl)
    (h1 : (assignEach [.Subscript (.Attribute (.Name y px) f pf) (.Name z pz) po] X.env).map (·.2) = [assign (.Subscript (.Attribute (.Name y px) f pf) (.Name z pz) po) X.env] := by rfl) : PFS X L (.Assign [.Subscript (.Attribute (.Name y px) f pf) (.Name z pz) po] e pos) (fSetFI c i f j fa) :=
  PS_imp (ps_asg he (pg_sub (pe_fld ho hb) hj set_list ha) hs hw h1) fun D σ H ⟨Z, Y, s, Ef, r, k, h, eo⟩ => by
  refine ⟨Z, Y, s, Ef.xx, _, r, k, eo.xx, h, fun v H1 Z1 r1 s1 hz rx h1 => ?_⟩
  obtain ⟨Z2, d, s2, hz2, rx2, h2⟩ := frz_ok (us := []) (ds := []) (vs := []) (rs := []) rx rfl h1
  obtain ⟨fs, xs, e1, e2, h3⟩ := onFL_ok h2
  obtain ⟨p, dx, fl, q0, us, g1, g2, g3, g4, g5, g6, wr⟩ := rx2.rel0.fieldL e1 e2
  generalize ej : s2.getD j .no = w at h3
  split at h3
  · rename_i n
    obtain ⟨h0, hlt, h4⟩ := h3
    have w := wr (us.set n.toNat v) (xs.set n.toNat d) (by rw [List.length_set]; exact g5) (g6.set rx2.vd _)
    refine ⟨.ref p, getD_some g1, p, _, dx, fl, .ref q0, rfl, g2, cl, na, g3, .int n, getD_some (rx2.rel0.int ej), q0, us, n, n.toNat, rfl, rfl, g4, ?_, eo.nx σ _ Z2 _ (hz.trans hz2) k w h4⟩
    unfold ixN
    rw [if_pos h0, if_pos (by rw [g6.length]; omega)]
  · exact h3.elim
variable {nm : Str} {apos cpos : Pos} {id : String}
theorem pf_lmF (i j : Nat) {g : LM} {pf : Pos} (cl : Cls X.K (He.ga X.K c)) (na : NoAttr X.K (He.ga X.K c) f) (slot : Slot "list" nm id) (hty : typeOf (.builtin id) = pure (.type "method_descriptor")) (hm : MtR X id (rLm X.K g)) (ho : PE X (.Name y px) (tVar i)) (hj : PE X (.Name z pz) (tVar j))
    (hb : attributeBase (.Name y px) f X.env (eval (.Name y px) X.env) = eval (.Name y px) X.env := by rfl)
    (hbase : attributeBase (.Attribute (.Name y px) f pf) nm X.env (eval (.Attribute (.Name y px) f pf) X.env) = eval (.Attribute (.Name y px) f pf) X.env := by rfl)
    (hfew : ((backTo cpos (starEach [.Name z pz] X.env)).all (fun x => !x.1) && (backToKw cpos (keywordEach [] X.env)).all (fun x => x.1.isSome)
      && decide (([.Name z pz] : List Expr).length + ([] : List Keyword).length + (if ([] : List Keyword).isEmpty then 0 else 1) < 30)) = true := by rfl)
    (hline : (apos.endLine == cpos.line) = true := by rfl) (hs : starEach [.Name z pz] X.env = (false, eval (.Name z pz) X.env) :: starEach [] X.env := by rfl) (hplain : (backTo cpos (starEach [] X.env)).any (·.1) = false := by rfl) :
    PF X L (.Call (.Attribute (.Attribute (.Name y px) f pf) nm apos) [.Name z pz] [] cpos) (fLmF c i f g j) :=
  PE_imp (pe_bm PySem.F.plainAttrs_list slot hty hm (pe_fld ho hb) (pa_cons hj pa_nil hs) hbase hfew hline hs hplain) fun σ H Q h => by
  obtain ⟨Z, Y, s, Xf, Qf, r, k, xo, h, q⟩ := h
  obtain ⟨v, r1, hv, rx, h1⟩ := var_ok r h
  obtain ⟨Z2, d, s2, hz2, rx2, h2⟩ := frz_ok (us := []) (ds := []) (vs := []) (rs := []) rx rfl h1
  obtain ⟨fs, xs, e1, e2, h3⟩ := onFL_ok h2
  obtain ⟨p, dx, fl, q0, us, g1, g2, g3, g4, g5, g6, wr⟩ := rx2.rel0.fieldL e1 e2
  exact ⟨.ref p, getD_some g1, p, _, dx, fl, .ref q0, rfl, g2, cl, na, g3, .inl ⟨rfl, us, .inl (.inl g4)⟩, v, getD_some hv, Z2, q0, us, xs, [d], _, rfl, g4, g5, g6, rx2.rel0.zh, .cons rx2.vd .nil, h3, fun u d' vs2 xs2 hq ru hl2 ra2 => q u _ Z2 _ _ hz2 (.d (wr vs2 xs2 hl2 ra2) ru) hq⟩
end
def fIxP (k : Nat) (a : FE) : FE := fun X s Q => a X s fun r s1 => match r with
  | .own (.tp ws) => (match ws[k]? with | some (.d x) => Q (.d x) s1 | _ => False)
  | _ => False
def isOb (c m : Str) (sv : SV) : Prop := obAt c sv (fun fs => getP m fs = none) (fun kvs => kvLook m kvs = none)
def fMeth (c m : Str) (i : Nat) (sem : FSem) (ms : List Bool) (a : FA) : FE := fun X s Q => isOb c m (s.getD i .no) ∧ fCall sem ms (fCons (fVar i) a) X s Q
/-- C(..) -/
def fMake (c : Str) (sem : FSem) (ms : List Bool) (a : FA) : FE := fun X s Q => a X s fun rs s1 => bindA ms rs s1 fun svs s2 => sem (.ob c [] :: svs) (fun n fin => X n (putB ms rs fin.tail s2)) fun r fin => match r, fin with
  | .d .none, w :: fin' => Q (.own w) (putB ms rs fin' s2)
  | _, _ => False
def tMethSD (C : Addr) (m : Str) (sp : Sp) (E : St → XK) (ta : TE) (t : TA) : TE := fun σ H Q => ta σ H fun x H1 => ∃ a dx fs, x = .ref a ∧ H1 a = some (.ins C dx fs) ∧ fs.lookup m = none ∧
  t σ H1 fun vs H2 => sp (x :: vs) H2 Q (E σ)
def tMakeSD (C : Addr) (sp : Sp) (E : St → XK) (t : TA) : TE := fun σ H Q => t σ H fun vs H1 => ∀ x dx, H1 x = none → H1 dx = none → dx ≠ x →
  sp (.ref x :: vs) (upd (upd H1 dx (.own x)) x (.ins C dx [])) (fun v H2 => v = .non ∧ Q (.ref x) H2) (E σ)
section
variable {X : Cx} {CX : CXT} {k : Nat} {f C : Addr} {fd : FuncData} {ps : List Str} {sp : Sp} {E : St → XK} {x m : Str} {p pos apos : Pos} {e o : Expr} {es : List Expr} {ta : TE} {t : TA}
theorem pe_methSD {pl : Sem Bool} (he : PE X o ta) (c : Cls X.K C) (hm : Meth X.K C m f) (F : FnOk X.prog X.w X.K X.mg X.base CX k f fd ps sp) (hr : Room k X.A) (hb : Binds X.K fd ps []) (hx : ∀ σ, PassesAt CX X σ (E σ)) (ha : PA X (e :: es) t)
    (hst : starEach (e :: es) X.env = (false, eval e X.env) :: starEach es X.env := by rfl) (hpl : (backTo pos (starEach es X.env)).any (·.1) = false := by rfl)
    (ht : eval (.Call (.Attribute o m apos) (e :: es) [] pos) X.env = (do
      let ov ← eval o X.env
      standAt apos.atName
      let (f, first) ← holding [ov] (getMethod ov m pl)
      callWith pos f first (backTo pos (starEach (e :: es) X.env)) (backToKw pos (keywordEach [] X.env))) := by rfl) :
    PE X (.Call (.Attribute o m apos) (e :: es) [] pos) (tMethSD C m sp E ta t) := by
  refine ⟨fun pins s σ H Q I h => ?_⟩
  refine PySem.W.methodCall_KW (pl := pl) (thn (he.run pins s σ H _ I h) fun u s1 ⟨x, H1, I1, rx, a, dx, fs, ex, ea, l, q⟩ => ?_) ht
  subst ex
  obtain rfl : u = Value.ref a := rx
  refine getmeth_ok I1 ea c hm l ?_
  refine PySem.W.callWith_K (first := [.ref a]) (h₀ := X.base) I.ok.mod.kin hm.kp (thn (ha.run pos pins s1 σ H1 _ I1 q) fun us s2 ⟨vs, H2, I2, r, q2⟩ => ⟨I2.kIn, ?_⟩) hst hpl
  exact run_fnSD (dvs := []) (us := .ref a :: us) (vs := .ref a :: vs) F hr hb .nil (hx σ) I2 (.cons rfl r) (by simpa using q2)
theorem pe_methSD0 {pl : Sem Bool} (he : PE X o ta) (c : Cls X.K C) (hm : Meth X.K C m f) (F : FnOk X.prog X.w X.K X.mg X.base CX k f fd ps sp) (hr : Room k X.A) (hb : Binds X.K fd ps []) (hx : ∀ σ, PassesAt CX X σ (E σ))
    (ht : eval (.Call (.Attribute o m apos) [] [] pos) X.env = (do
      let ov ← eval o X.env
      standAt apos.atName
      let (f, first) ← holding [ov] (getMethod ov m pl)
      callWith pos f first (backTo pos (starEach [] X.env)) (backToKw pos (keywordEach [] X.env))) := by rfl) :
    PE X (.Call (.Attribute o m apos) [] [] pos) (tMethSD C m sp E ta tNil) := by
  refine ⟨fun pins s σ H Q I h => ?_⟩
  refine PySem.W.methodCall_KW (pl := pl) (thn (he.run pins s σ H _ I h) fun u s1 ⟨x, H1, I1, rx, a, dx, fs, ex, ea, l, q⟩ => ?_) ht
  subst ex
  obtain rfl : u = Value.ref a := rx
  refine getmeth_ok I1 ea c hm l ?_
  exact PySem.W.callWith_K0 (first := [.ref a]) I1.kIn hm.kp (run_fnSD (dvs := []) (us := [.ref a]) (vs := [.ref a]) F hr hb .nil (hx σ) I1 (.cons rfl .nil) q)
theorem run_makeSD {pins : List (Addr × Obj)} {σ : St} {H : Hp} {s : Shared} {Q : VK} {us : List Value} {vs : List V} {E : XK} (M : Mk X.K C f) (F : FnOk X.prog X.w X.K X.mg X.base CX k f fd ps sp) (hr : Room (k + 1) X.A) (hb : Binds X.K fd ps [])
    (hx : PassesAt CX X σ E) (I : Inv X pins σ H s) (r : Vals vs us)
    (h : ∀ x dx, H x = none → H dx = none → dx ≠ x → sp (.ref x :: vs) (upd (upd H dx (.own x)) x (.ins C dx [])) (fun v H2 => v = .non ∧ Q (.ref x) H2) E) :
    wpAny (model X.prog X.w) X.A (call (.ref C) us) (EP X pins σ Q) X.xe s := by
  have hq := h (s.heap.objs.size + 1) s.heap.objs.size (I.hok.fresh (Nat.le_succ _)) (I.hok.fresh (Nat.le_refl _)) (Nat.ne_of_lt (Nat.lt_succ_self _))
  have I2 := Inv.made (C := C) I
  have r2 : Vals (V.ref (s.heap.objs.size + 1) :: vs) (Value.ref (s.heap.objs.size + 1) :: us) := .cons rfl r
  have hl : ((Value.ref (s.heap.objs.size + 1) :: us) ++ []).length = ps.length := by
    have e := r2.length
    rw [F.len _ _ _ _ hq] at e
    rw [List.append_nil]
    exact e.symm
  have bb := hb _ (Value.ref (s.heap.objs.size + 1) :: us) I2.kIn hl
  rw [List.append_nil] at bb
  refine wpAny_call (make_map (f := f) I.kIn M.makes M.init (beq_iff_eq.mp M.fn) (codeAny_mono (F.run _ X.stack _ _ ⟨Value.ref (s.heap.objs.size + 1) :: us, []⟩ (Value.ref (s.heap.objs.size + 1) :: us) _ _ E (hr.make C us [])
    (I2.env0.make C us []) bb r2 hq) fun r s' hq' => ?_))
  cases r with
  | error e => exact hx pins _ _ e s' I2 hq'
  | ok fl =>
    cases fl with
    | ret u =>
      obtain ⟨v, H', I3, rv, ev, q3⟩ := I2.after hq'
      subst ev
      exact ⟨rv, ⟨V.ref (s.heap.objs.size + 1), H', I3, rfl, q3⟩⟩
    | next => exact False.elim hq'
    | brk => exact False.elim hq'
    | cont => exact False.elim hq'
theorem pe_makeSD (M : Mk X.K C f) (F : FnOk X.prog X.w X.K X.mg X.base CX k f fd ps sp) (hr : Room (k + 1) X.A) (hg : Gl X x) (hm : X.mg x = some (.ref C)) (hb : Binds X.K fd ps []) (hx : ∀ σ, PassesAt CX X σ (E σ))
    (ha : PA X (e :: es) t) (hdb : (x == ("__debug__" : Str)) = false := by decide) (he : starEach (e :: es) X.env = (false, eval e X.env) :: starEach es X.env := by rfl) (hpl : (backTo pos (starEach es X.env)).any (·.1) = false := by rfl) :
    PE X (.Call (.Name x p) (e :: es) [] pos) (tMakeSD C sp E t) := by
  refine ⟨fun pins s σ H Q I h => ?_⟩
  refine wpAny_Call_Name_kw (ld_glob I hg hm ?_ hdb)
  refine PySem.W.callWith_K (h₀ := X.base) I.ok.mod.kin M.kp (thn (ha.run pos pins s σ H _ I h) fun us s1 ⟨vs, H1, I1, r, q⟩ => ⟨I1.kIn, ?_⟩) he hpl
  exact run_makeSD M F hr hb (hx σ) I1 r q
end
section
variable {X : Cx} {L : Lv} {e o : Expr} {es : List Expr} {fa : FE} {fr : FA} {pos p px apos : Pos} {c m y x : Str} {sem : FSem} {ms : List Bool} {k : Nat} {f : Addr} {fd : FuncData} {ps : List Str}
theorem cons_split {n : Nat} {σ : St} {H : Hp} {Q : List V → Hp → Prop} (h : liftA X L (n + 1) (fCons fa fr) σ H Q) : liftE X L fa σ H fun v H1 => liftA X L n fr σ H1 fun vs H2 => Q (v :: vs) H2 := by
  obtain ⟨Z, Y, s, Xf, Qf, r, k, xo, h, q⟩ := h
  refine ⟨Z, Y, s, Xf, _, r, k, xo, h, fun v H1 Z1 r1 s1 hz rx h1 => ?_⟩
  obtain ⟨Y', hy, rl, bk, fw⟩ := rx.frame
  refine ⟨Z1, Y', s1, Xf, _, rl, k, (xo.z hz).mono (Same.refl _) bk, h1, fun vs H2 Z2 rs s2 hz2 rx2 hn h2 => ?_⟩
  exact q (v :: vs) H2 Z2 (r1 :: rs) s2 (hz.trans hz2) (fw Z2 H2 s2 vs rs hz2 rx2) (by rw [List.length_cons, hn]) h2
theorem fMeth_ok {n i : Nat} {σ : St} {H : Hp} {Q : VK} (hn : ms.length = n + 1) (h : liftE X L (fMeth c m i sem ms fr) σ H Q) :
    tMethSD (He.ga X.K c) m (liftSp X.K X.mg (ioOf ms) (n + 1) sem) (fun σ cls d H => L.E cls d σ H) (tVar i) (liftA X L n fr) σ H Q := by
  obtain ⟨Z, Y, s, Xf, Qf, r, k, xo, ⟨h0, h⟩, q⟩ := h
  obtain ⟨p, dx, fl, g1, g2, g3⟩ := r.obj h0
  have nl : fl.lookup m = none := by
    rcases g3 with ⟨fs, vs, G, _, rfl, t, h⟩ | ⟨kvs, t, h⟩
    · exact t.nofield h
    · exact t.nofield h
  have h2 : liftE X L (fCall sem ms (fCons (fVar i) fr)) σ H Q := ⟨Z, Y, s, Xf, Qf, r, k, xo, h, q⟩
  obtain ⟨v, hv, h4⟩ := lift_var (cons_split (fCall_ok hn h2))
  have ev : v = .ref p := by
    rw [getD_some g1] at hv
    cases hv; rfl
  subst ev
  refine ⟨.ref p, hv, p, dx, fl, rfl, g2, nl, ?_⟩
  simpa using h4
theorem pf_meth {pl : Sem Bool} (i : Nat) (cl : Cls X.K (He.ga X.K c)) (hm : Meth X.K (He.ga X.K c) m f) (F : FnOk X.prog X.w X.K X.mg X.base (L2.CX X.prog X.w) k f fd ps (liftSp X.K X.mg (ioOf ms) (es.length + 2) sem)) (hb : Binds X.K fd ps []) (hr : Room k X.A)
    (hx : ∀ σ, PassesAt (L2.CX X.prog X.w) X σ (fun cls d H => L.E cls d σ H)) (ho : PE X (.Name y px) (tVar i)) (ha : PFA X L (e :: es) fr) (hn : ms.length = es.length + 2 := by rfl)
    (hst : starEach (e :: es) X.env = (false, eval e X.env) :: starEach es X.env := by rfl) (hpl : (backTo pos (starEach es X.env)).any (·.1) = false := by rfl)
    (ht : eval (.Call (.Attribute (.Name y px) m apos) (e :: es) [] pos) X.env = (do
      let ov ← eval (.Name y px) X.env
      standAt apos.atName
      let (f, first) ← holding [ov] (getMethod ov m pl)
      callWith pos f first (backTo pos (starEach (e :: es) X.env)) (backToKw pos (keywordEach [] X.env))) := by rfl) :
    PF X L (.Call (.Attribute (.Name y px) m apos) (e :: es) [] pos) (fMeth c m i sem ms fr) :=
  PE_imp (pe_methSD (pl := pl) ho cl hm F hr hb hx ha hst hpl ht) fun σ H Q h => fMeth_ok (n := es.length + 1) hn h
theorem pf_meth0 {pl : Sem Bool} (i : Nat) (cl : Cls X.K (He.ga X.K c)) (hm : Meth X.K (He.ga X.K c) m f) (F : FnOk X.prog X.w X.K X.mg X.base (L2.CX X.prog X.w) k f fd ps (liftSp X.K X.mg (ioOf ms) 1 sem)) (hb : Binds X.K fd ps []) (hr : Room k X.A)
    (hx : ∀ σ, PassesAt (L2.CX X.prog X.w) X σ (fun cls d H => L.E cls d σ H)) (ho : PE X (.Name y px) (tVar i)) (hn : ms.length = 1 := by rfl)
    (ht : eval (.Call (.Attribute (.Name y px) m apos) [] [] pos) X.env = (do
      let ov ← eval (.Name y px) X.env
      standAt apos.atName
      let (f, first) ← holding [ov] (getMethod ov m pl)
      callWith pos f first (backTo pos (starEach [] X.env)) (backToKw pos (keywordEach [] X.env))) := by rfl) :
    PF X L (.Call (.Attribute (.Name y px) m apos) [] [] pos) (fMeth c m i sem ms fNil) :=
  PE_imp (pe_methSD0 (pl := pl) ho cl hm F hr hb hx ht) fun σ H Q h => by
  obtain ⟨x, hx1, a, dx, fs, e1, e2, e3, h⟩ := fMeth_ok (n := 0) hn h
  refine ⟨x, hx1, a, dx, fs, e1, e2, e3, ?_⟩
  obtain ⟨Z, Y, s, Xf, Qf, r, k, xo, h, q⟩ := h
  exact q [] H Z [] s (Same.refl _) (.nil r) rfl h
theorem ioOf_tail {k : Nat} (h : k ∈ ioOf ms) : k + 1 ∈ ioOf (true :: ms) := by
  unfold ioOf at h ⊢
  obtain ⟨h1, h2⟩ := List.mem_filter.mp h
  exact List.mem_filter.mpr ⟨List.mem_range.mpr (by rw [List.length_cons]; have := List.mem_range.mp h1; omega), by simpa using h2⟩
theorem ioOf_zero : 0 ∈ ioOf (true :: ms) := by
  unfold ioOf
  exact List.mem_filter.mpr ⟨List.mem_range.mpr (by simp), by simp⟩
theorem fMake_ok {n : Nat} {σ : St} {H : Hp} {Q : VK} (hn : ms.length = n) (h : liftE X L (fMake c sem ms fr) σ H Q) :
    tMakeSD (He.ga X.K c) (liftSp X.K X.mg (ioOf (true :: ms)) (n + 1) sem) (fun σ cls d H => L.E cls d σ H) (liftA X L n fr) σ H Q := by
  obtain ⟨Z, Y, s, Xf, Qf, r, k, xo, h, q⟩ := h
  refine ⟨Z, Y, s, Xf, _, r, k, xo, h, fun vs H1 Z1 rs s1 hz rx hrn h1 x dx hx hdx hne => ?_⟩
  obtain ⟨Z2, svs, s2, hz2, r2, hls, hlv, hlm, h2⟩ := bindA_ok (us := []) (ds := []) (vs := vs) (by simpa using rx.rel) rx.l1 rfl rx.l2 rx.top h1
  simp only [List.nil_append] at r2
  have hσ : σ.length = s2.length := by rw [hls]; exact rx.l1
  have hts : (vs.map some).length = svs.length := by rw [List.length_map, hlv]
  have hvn : vs.length = n := by rw [rx.l2, hrn]
  -- the new object
  let H2 := upd (upd H1 dx (.own x)) x (.ins (He.ga X.K c) dx [])
  have s12 : Same H1 H2 := fun a ob e => by
    show upd (upd H1 dx (.own x)) x _ a = _
    rw [upd_ne (ne_of_none e hx), upd_ne (ne_of_none e hdx)]
    exact e
  have r3 : Rel X.K Z2 Y H2 (σ ++ vs.map some ++ [some (.ref x)]) (s2 ++ svs ++ [.ob c []]) := r2.push (F := [x, dx]) s12 (Same.refl _) (r2.zh.trans s12) (fun _ _ => rfl)
    ⟨x, dx, [], [], rfl, rfl, upd_same, by show upd (upd H1 dx (.own x)) x _ dx = _; rw [upd_ne hne, upd_same], .nil⟩ (by simp [Ne.symm hne]) (fun a ha => by
      rcases List.mem_cons.mp ha with rfl | ha
      · exact ⟨hx, r2.zh.free hx⟩
      · obtain rfl : a = dx := by simpa using ha
        exact ⟨hdx, r2.zh.free hdx⟩)
  have r4 := Rel.swap r3 hσ hts
  have r5 : Rel X.K Z2 Y H2 ([] ++ ([some (.ref x)] ++ vs.map some) ++ σ) ([] ++ ([.ob c []] ++ svs) ++ s2) := Rel.swap (σa := []) (sa := []) (by simpa using r4) rfl hσ
  simp only [List.nil_append] at r5
  have hl5 : ([some (.ref x)] ++ vs.map some : St).length = ([.ob c []] ++ svs : S).length := by simp [hlv]
  obtain ⟨Y', hy', r6, back, _⟩ := r5.frame hl5
  refine ⟨Z2, Y', .ob c [] :: svs, _, _, by simp [hvn], r6, h2, fun u H' Z' σ' fin r' hz' keep hl' rx' nt hq => ?_, fun n' C H' Z' σ' fin hz' keep hl' r' hx' m => ?_⟩
  · split at hq
    · rename_i w fin'
      have b := back Z' H' _ _ hz' rx'.rel
      have lf : σ'.length = (w :: fin').length := rx'.l1
      obtain ⟨t0, σt, rfl⟩ : ∃ t0 σt, σ' = t0 :: σt := by
        cases σ' with
        | nil => simp at hl'
        | cons a1 b1 => exact ⟨a1, b1, rfl⟩
      have et : t0 = some (.ref x) := by simpa using keep 0 ioOf_zero
      subst et
      have lt : σt.length = fin'.length := by simpa using lf
      have eu : u = .non := by
        have := rx'.vd
        cases this; rfl
      refine ⟨eu, ?_⟩
      -- the answer falls away; the object goes behind
      have b1 : Rel X.K Z' Y H' ([some (.ref x)] ++ σt ++ σ) ([w] ++ fin' ++ s2) := by
        have b0 : Rel X.K Z' Y H' (([some (.ref x)] ++ σt) ++ [some u] ++ σ) (([w] ++ fin') ++ [svR (.d .none)] ++ s2) := by simpa using b
        exact (Rel.swap b0 (by simp [lt]) rfl).take (by simp [lt, hσ])
      have b2 : Rel X.K Z' Y H' ([] ++ (σt ++ σ) ++ [some (.ref x)]) ([] ++ (fin' ++ s2) ++ [w]) := Rel.swap (σa := []) (sa := []) (by simpa using b1) rfl rfl
      have b3 : Rel X.K Z' Y H' (σt ++ [some (.ref x)] ++ σ) (fin' ++ [w] ++ s2) := Rel.swap (by simpa using b2) lt hσ
      have b4 := back_ok (ms := ms) (rs := rs) (vs := vs) b3 hσ lt rfl (fun k hk => by simpa using keep (k + 1) (ioOf_tail hk)) rx.l2 rx.top (by rw [← lt]; simpa [hvn] using hl')
      exact q (.ref x) H' Z' (.own w) _ ((hz.trans hz2).trans hz') (.own (by rw [putB_len]; exact hσ) b4) hq
    · exact hq.elim
  · have b := back Z' H' _ _ hz' r'
    have lf : σ'.length = fin.length := r'.len
    obtain ⟨t0, σt, rfl⟩ : ∃ t0 σt, σ' = t0 :: σt := by
      cases σ' with
      | nil => simp at hl'
      | cons a1 b1 => exact ⟨a1, b1, rfl⟩
    obtain ⟨w, fin', rfl⟩ : ∃ t0 σt, fin = t0 :: σt := by
      cases fin with
      | nil => simp at lf
      | cons a1 b1 => exact ⟨a1, b1, rfl⟩
    have lt : σt.length = fin'.length := by simpa using lf
    have b2 : Rel X.K Z' Y H' ([] ++ (σt ++ σ) ++ [t0]) ([] ++ (fin' ++ s2) ++ [w]) := Rel.swap (σa := []) (sa := []) (by simpa using b) rfl rfl
    have b3 : Rel X.K Z' Y H' (σt ++ σ) (fin' ++ s2) := Rel.take (by simpa using b2) (by simp [lt, hσ])
    have b4 := back_ok (ts := []) (us := []) (ms := ms) (rs := rs) (vs := vs) (by simpa using b3) hσ lt rfl (fun k hk => by simpa using keep (k + 1) (ioOf_tail hk)) rx.l2 rx.top (by rw [← lt]; simpa [hvn] using hl')
    simp only [List.append_nil] at b4
    exact xo n' C Z' H' σ _ ((hz.trans hz2).trans hz') k b4 hx' m
theorem pf_make (M : Mk X.K (He.ga X.K c) f) (F : FnOk X.prog X.w X.K X.mg X.base (L2.CX X.prog X.w) k f fd ps (liftSp X.K X.mg (ioOf (true :: ms)) (es.length + 2) sem)) (hr : Room (k + 1) X.A) (hm : X.mg c = some (.ref (He.ga X.K c))) (hb : Binds X.K fd ps [])
    (hx : ∀ σ, PassesAt (L2.CX X.prog X.w) X σ (fun cls d H => L.E cls d σ H)) (ha : PFA X L (e :: es) fr) (hn : ms.length = es.length + 1 := by rfl) (hg : Gl X c := by rfl) (hdb : (c == ("__debug__" : Str)) = false := by decide) (he : starEach (e :: es) X.env = (false, eval e X.env) :: starEach es X.env := by rfl) (hpl : (backTo pos (starEach es X.env)).any (·.1) = false := by rfl) :
    PF X L (.Call (.Name c p) (e :: es) [] pos) (fMake c sem ms fr) := PE_imp (pe_makeSD M F hr hg hm hb hx ha hdb he hpl) fun σ H Q h => fMake_ok hn h
end
/-- a method of the text -/
def Dm (P : Program) (w : World) (K : PySem.W.Frag) (mg : Str → Option Value) (base : Heap) (c m : Str) (k : Nat) (ps : List Str) (ms : List Bool) (sem : FSem) : Prop :=
  ∃ fd, FnOk P w K mg base (L2.CX P w) k (He.ma K (He.ga K c) m) fd ps (liftSp K mg (ioOf ms) ps.length sem) ∧ Binds K fd ps []
section
variable {P : Program} {w : World} {K : PySem.W.Frag} {mg : Str → Option Value} {base : Heap} {fa : List He.Fa} {fn : List He.DefD}
theorem TxOk.cls (T : TxOk fa fn K mg base) (i : Nat) {x : Str} (h : fa[i]? = some (.cls x) := by rfl) : Cls K (He.ga K x) := He.cls_ok (T.c.fact i h)
theorem TxOk.noat (T : TxOk fa fn K mg base) (i : Nat) {x f : Str} (h : fa[i]? = some (.noat x f) := by rfl) : NoAttr K (He.ga K x) f := He.noat_ok (T.c.fact i h)
theorem TxOk.meth (T : TxOk fa fn K mg base) (i : Nat) {x m : Str} (h : fa[i]? = some (.meth x m) := by rfl) : Meth K (He.ga K x) m (He.ma K (He.ga K x) m) := He.meth_ok (T.c.fact i h)
theorem TxOk.mkr (T : TxOk fa fn K mg base) (i : Nat) {x : Str} (h : fa[i]? = some (.mkr x) := by rfl) : Mk K (He.ga K x) (He.ma K (He.ga K x) "__init__") := He.mkr_ok (T.c.fact i h)
theorem dmOk (T : TxOk fa fn K mg base) {c m q : Str} {st : Stmt} {N ps : List Str} {ms : List Bool} {bd : FS} {k : Nat} (i : Nat) (sco : FnScope N ps (defScope st)) (hnp : ps.length ≤ N.length)
    (hbi : ∀ (kV doc pm : Value) (an : Option Addr) (cdv ct : Value) (us : List Value), us.length = ps.length → bindArgs (PySem.W.fnOf m q (defArgs st) (defBody st) (defScope st) .none kV doc pm an cdv ct) ⟨us, []⟩ = pure (ps.zip us))
    (hb : ∀ (f : Addr) (cdv : Value) (A : Around) (outer : List Env) (s : Shared) (H : Hp) (vs : List V) (E : XK), Room k (A.deeper (envOfC q (defScope st) s.heap.objs.size f cdv)) →
      PFSs (cxOf (L2.CX P w) P w K mg base N q (defScope st) f cdv A outer s H E) ⟨fun cls d _ H => E cls d H, ioOf ms, L2.start N vs⟩ (defBody st) bd)
    (h : fn[i]? = some (mOf c m q st) := by rfl) : Dm P w K mg base c m (k + 1) ps ms (semOf ps.length N.length bd) := by
  obtain ⟨fd, F⟩ := T.c.def_ i h
  exact ⟨fd, okF (funOf F) sco hnp fun cdv A outer s H vs E hr => hb _ cdv A outer s H vs E hr, F.bindsN hbi⟩
variable {X : Cx} {L : Lv} {e a b : Expr} {es : List Expr} {fr : FA} {pos p px apos : Pos} {c m y : Str} {ps : List Str} {ms : List Bool} {k : Nat} {sem : FSem}
theorem pf_callM {pl : Sem Bool} (i : Nat) (D : Dm X.prog X.w X.K X.mg X.base c m k ps ms sem) (cl : Cls X.K (He.ga X.K c)) (hm : Meth X.K (He.ga X.K c) m (He.ma X.K (He.ga X.K c) m)) (hr : Room k X.A)
    (hx : ∀ σ, PassesAt (L2.CX X.prog X.w) X σ (fun cls d H => L.E cls d σ H)) (ho : PE X (.Name y px) (tVar i)) (ha : PFA X L (e :: es) fr) (hl : ps.length = es.length + 2 := by rfl) (hn : ms.length = es.length + 2 := by rfl)
    (hst : starEach (e :: es) X.env = (false, eval e X.env) :: starEach es X.env := by rfl) (hpl : (backTo pos (starEach es X.env)).any (·.1) = false := by rfl)
    (ht : eval (.Call (.Attribute (.Name y px) m apos) (e :: es) [] pos) X.env = (do
      let ov ← eval (.Name y px) X.env
      standAt apos.atName
      let (f, first) ← holding [ov] (getMethod ov m pl)
      callWith pos f first (backTo pos (starEach (e :: es) X.env)) (backToKw pos (keywordEach [] X.env))) := by rfl) :
    PF X L (.Call (.Attribute (.Name y px) m apos) (e :: es) [] pos) (fMeth c m i sem ms fr) := by
  obtain ⟨fd, F, bi⟩ := D
  rw [hl] at F
  exact pf_meth (pl := pl) i cl hm F bi hr hx ho ha hn hst hpl ht
theorem pf_callM0 {pl : Sem Bool} (i : Nat) (D : Dm X.prog X.w X.K X.mg X.base c m k ps ms sem) (cl : Cls X.K (He.ga X.K c)) (hm : Meth X.K (He.ga X.K c) m (He.ma X.K (He.ga X.K c) m)) (hr : Room k X.A)
    (hx : ∀ σ, PassesAt (L2.CX X.prog X.w) X σ (fun cls d H => L.E cls d σ H)) (ho : PE X (.Name y px) (tVar i)) (hl : ps.length = 1 := by rfl) (hn : ms.length = 1 := by rfl)
    (ht : eval (.Call (.Attribute (.Name y px) m apos) [] [] pos) X.env = (do
      let ov ← eval (.Name y px) X.env
      standAt apos.atName
      let (f, first) ← holding [ov] (getMethod ov m pl)
      callWith pos f first (backTo pos (starEach [] X.env)) (backToKw pos (keywordEach [] X.env))) := by rfl) :
    PF X L (.Call (.Attribute (.Name y px) m apos) [] [] pos) (fMeth c m i sem ms fNil) := by
  obtain ⟨fd, F, bi⟩ := D
  rw [hl] at F
  exact pf_meth0 (pl := pl) i cl hm F bi hr hx ho hn ht
theorem pf_mkC (D : Dm X.prog X.w X.K X.mg X.base c "__init__" k ps (true :: ms) sem) (M : Mk X.K (He.ga X.K c) (He.ma X.K (He.ga X.K c) "__init__")) (hm : X.mg c = some (.ref (He.ga X.K c))) (hr : Room (k + 1) X.A)
    (hx : ∀ σ, PassesAt (L2.CX X.prog X.w) X σ (fun cls d H => L.E cls d σ H)) (ha : PFA X L (e :: es) fr) (hl : ps.length = es.length + 2 := by rfl) (hn : ms.length = es.length + 1 := by rfl) (hg : Gl X c := by rfl) (hdb : (c == ("__debug__" : Str)) = false := by decide) (he : starEach (e :: es) X.env = (false, eval e X.env) :: starEach es X.env := by rfl) (hpl : (backTo pos (starEach es X.env)).any (·.1) = false := by rfl) :
    PF X L (.Call (.Name c p) (e :: es) [] pos) (fMake c sem ms fr) := by
  obtain ⟨fd, F, bi⟩ := D
  rw [hl] at F
  exact pf_make M F hr hm bi hx ha hn hg hdb he hpl
end
end Hs
namespace Hs
open PySem
class StrNe (f g : Str) : Prop where ne : f ≠ g
class PGet (f : Str) (fs : List (Str × PV)) (w : outParam PV) : Prop where e : getP f fs = some w
class PNo (f : Str) (fs : List (Str × PV)) : Prop where e : getP f fs = none
class PPut (f : Str) (w : PV) (fs : List (Str × PV)) (fs' : outParam (List (Str × PV))) : Prop where e : putP f w fs = fs'
class KGet (f : Str) (kvs : List (D × D)) (x : outParam D) : Prop where e : kvLook f kvs = some x
class KNo (f : Str) (kvs : List (D × D)) : Prop where e : kvLook f kvs = none
class ObAll (fs : List (Str × PV)) (kvs : outParam (List (D × D))) : Prop where e : (fs.map fun p => (PyData.str p.1, p.2.asD)) = kvs
section
variable {f g : Str} {w w' : PV} {fs fs' : List (Str × PV)} {kvs : List (D × D)} {x y : D}
instance (priority := high) pgetH : PGet f ((f, w) :: fs) w := ⟨if_pos rfl⟩
instance pgetM [n : StrNe g f] [h : PGet f fs w] : PGet f ((g, w') :: fs) w := ⟨(if_neg n.ne).trans h.e⟩
instance pnoN : PNo f [] := ⟨rfl⟩
instance pnoM [n : StrNe g f] [h : PNo f fs] : PNo f ((g, w') :: fs) := ⟨(if_neg n.ne).trans h.e⟩
instance pputN : PPut f w [] [(f, w)] := ⟨rfl⟩
instance (priority := high) pputH : PPut f w ((f, w') :: fs) ((f, w) :: fs) := ⟨if_pos rfl⟩
instance pputM [n : StrNe g f] [h : PPut f w fs fs'] : PPut f w ((g, w') :: fs) ((g, w') :: fs') := ⟨(if_neg n.ne).trans (by rw [h.e])⟩
instance (priority := high) kgetH : KGet f ((.str f, x) :: kvs) x := ⟨if_pos rfl⟩
instance kgetM [n : StrNe g f] [h : KGet f kvs x] : KGet f ((.str g, y) :: kvs) x := ⟨(if_neg n.ne).trans h.e⟩
instance knoN : KNo f [] := ⟨rfl⟩
instance knoM [n : StrNe g f] [h : KNo f kvs] : KNo f ((.str g, y) :: kvs) := ⟨(if_neg n.ne).trans h.e⟩
instance obaN : ObAll [] [] := ⟨rfl⟩
instance obaD [h : ObAll fs kvs] : ObAll ((f, .d x) :: fs) ((.str f, x) :: kvs) := ⟨by rw [← h.e]; rfl⟩
instance obaL {xs : List D} [h : ObAll fs kvs] : ObAll ((f, .l xs) :: fs) ((.str f, .list xs) :: kvs) := ⟨by rw [← h.e]; rfl⟩
instance obaDc {xs : List (D × D)} [h : ObAll fs kvs] : ObAll ((f, .dc xs) :: fs) ((.str f, .dict xs) :: kvs) := ⟨by rw [← h.e]; rfl⟩
instance frzOb {c : Str} {s s' : S} [p : ObAll fs kvs] [h : Frz s s'] : Frz (.ob c fs :: s) (.d (obD c kvs) :: s') := ⟨by
  rw [← p.e]
  exact frzC h.e⟩
end
section
variable {nx bk ct : S → Prop} {rt : R → S → Prop} {X xx : XF} {s s' s'' : S} {a b : FE} {fr : FA} {Q : R → S → Prop} {i j : Nat} {x y : D} {xs : List D} {v : SV} {c f m : Str} {fs fs' : List (Str × PV)} {kvs : List (D × D)} {w : PV} {n : Int} {sem : FSem} {ms : List Bool} {rs : List R} {r : R}
theorem st_var_ob [e : Get s i (.ob c fs)] (h : Q (.top i) s) : fVar i X s Q := by unfold fVar; rw [e.e]; exact h
theorem st_fld_ob [g : Get s i (.ob c fs)] [p : PGet f fs (.d x)] (h : Q (.d x) s) : fFld c i f X s Q := by
  unfold fFld
  rw [g.e]
  refine ⟨rfl, ?_⟩
  dsimp only
  rw [p.e]
  exact h
theorem st_fld_d [g : Get s i (.d (obD c kvs))] [p : KGet f kvs x] (h : Q (.d x) s) : fFld c i f X s Q := by
  unfold fFld
  rw [g.e]
  refine ⟨rfl, ?_⟩
  dsimp only
  rw [p.e]
  exact h
theorem st_onOb {k : List (Str × PV) → Prop} [g : Get s i (.ob c fs)] (h : k fs) : onOb c i s k := by
  unfold onOb
  rw [g.e]
  exact ⟨rfl, h⟩
theorem st_onFL {k : List (Str × PV) → List D → Prop} [g : Get s i (.ob c fs)] [p : PGet f fs (.l xs)] (h : k fs xs) : onFL c i f s k := by
  unfold onFL
  refine st_onOb ?_
  rw [p.e]
  exact h
theorem st_fldIx [g : Get s i (.ob c fs)] [p : PGet f fs (.l xs)] [z : Get s j (.d (.int n))] (e : L2.atI xs n = some x) (h : Q (.d x) s) : fFldIx c i f j X s Q := by
  unfold fFldIx
  refine st_onFL ?_
  rw [z.e]
  dsimp only
  rw [e]
  exact h
theorem st_toPV_d {k : PV → S → Prop} (h : k (.d x) s) : toPV (.d x) s k := h
theorem st_toPV_l {k : PV → S → Prop} (h : k (.l xs) s) : toPV (.own (.l xs)) s k := h
theorem st_toPV_top_l {k : PV → S → Prop} [g : Get s j (.l xs)] [p : Put s j (.d (.list xs)) s'] (h : k (.d (.list xs)) s') : toPV (.top j) s k := st_frz_top (k := fun x s1 => k (.d x) s1) h
/-- o.f stored -/
def obSet (c : Str) (i : Nat) (f : Str) (w : PV) (s : S) (k : S → Prop) : Prop := onOb c i s fun fs => fs.length < 1000 ∧ k (s.set i (.ob c (putP f w fs)))
theorem st_obSet {k : S → Prop} [g : Get s i (.ob c fs)] [p : PPut f w fs fs'] [q : Put s i (.ob c fs') s'] (hl : fs.length < 1000) (h : k s') : obSet c i f w s k := by
  unfold obSet
  refine st_onOb ⟨hl, ?_⟩
  rw [p.e, q.e]
  exact h
theorem st_setF (h : a xx s fun r s1 => toPV r s1 fun w s2 => obSet c i f w s2 nx) : fSetF c i f a ⟨nx, rt, bk, ct, xx⟩ s := h
/-- o.f[x] stored -/
def fiK (c : Str) (i : Nat) (f : Str) (j : Nat) (d : D) (s : S) (k : S → Prop) : Prop := onFL c i f s fun fs xs => match s.getD j .no with
  | .d (.int n) => 0 ≤ n ∧ n.toNat < xs.length ∧ k (s.set i (.ob c (putP f (.l (xs.set n.toNat d)) fs)))
  | _ => False
theorem st_setFI (h : a xx s fun r s1 => frz r s1 fun d s2 => fiK c i f j d s2 nx) : fSetFI c i f j a ⟨nx, rt, bk, ct, xx⟩ s := h
theorem st_fiK {k : S → Prop} [g : Get s i (.ob c fs)] [p : PGet f fs (.l xs)] [z : Get s j (.d (.int n))] [u : PPut f (.l (xs.set n.toNat x)) fs fs'] [q : Put s i (.ob c fs') s'] (h0 : 0 ≤ n) (h1 : n.toNat < xs.length) (h : k s') : fiK c i f j x s k := by
  unfold fiK
  refine st_onFL ?_
  rw [z.e]
  dsimp only
  refine ⟨h0, h1, ?_⟩
  rw [u.e, q.e]
  exact h
/-- o.f.m(x) -/
def lmK (c : Str) (i : Nat) (f : Str) (g : LM) (d : D) (s : S) (k : D → S → Prop) : Prop := onFL c i f s fun fs xs => g xs [d] fun x xs' => k x (s.set i (.ob c (putP f (.l xs') fs)))
theorem st_lmF {g : LM} (h : fVar j X s fun r s1 => frz r s1 fun d s2 => lmK c i f g d s2 fun x s3 => Q (.d x) s3) : fLmF c i f g j X s Q := h
theorem st_lmK_app {k : D → S → Prop} [g : Get s i (.ob c fs)] [p : PGet f fs (.l xs)] [u : PPut f (.l (xs ++ [x])) fs fs'] [q : Put s i (.ob c fs') s'] (h0 : xs.length < sizeLine) (h : k .none s') : lmK c i f mAppend x s k := by
  unfold lmK
  refine st_onFL ⟨h0, ?_⟩
  dsimp only
  rw [u.e, q.e]
  exact h
theorem st_meth_ob [g : Get s i (.ob c fs)] [p : PNo m fs] (h : fCall sem ms (fCons (fVar i) fr) X s Q) : fMeth c m i sem ms fr X s Q := by
  unfold fMeth isOb
  refine ⟨?_, h⟩
  rw [g.e]
  exact ⟨rfl, p.e⟩
theorem st_meth_d [g : Get s i (.d (obD c kvs))] [p : KNo m kvs] (h : fCall sem ms (fCons (fVar i) fr) X s Q) : fMeth c m i sem ms fr X s Q := by
  unfold fMeth isOb
  refine ⟨?_, h⟩
  rw [g.e]
  exact ⟨rfl, p.e⟩
/-- what __init__ leaves -/
def mkK (ms : List Bool) (rs : List R) (s : S) (Q : R → S → Prop) (r : R) (fin : S) : Prop := match r, fin with
  | .d .none, w :: fin' => Q (.own w) (putB ms rs fin' s)
  | _, _ => False
theorem st_make (h : fr X s fun rs s1 => bindA ms rs s1 fun svs s2 => sem (.ob c [] :: svs) (fun n fin => X n (putB ms rs fin.tail s2)) fun r fin => mkK ms rs s2 Q r fin) : fMake c sem ms fr X s Q := h
theorem st_mkK {fin : S} (h : putK ms rs fin s fun s3 => Q (.own v) s3) : mkK ms rs s Q (.d .none) (v :: fin) := h
theorem st_ixP {k : Nat} (h : a X s fun r s1 => match r with
  | .own (.tp ws) => (match ws[k]? with | some (.d x) => Q (.d x) s1 | _ => False)
  | _ => False) : fIxP k a X s Q := h
end
end Hs
namespace LP
def sm : Nat → (Nat → Int) → Int
  | 0, _ => 0
  | n + 1, f => sm n f + f n
theorem sm_congr {n : Nat} {f g : Nat → Int} (h : ∀ i, i < n → f i = g i) : sm n f = sm n g := by
  induction n with
  | zero => rfl
  | succ n ih =>
    unfold sm
    rw [ih fun i hi => h i (by omega), h n (by omega)]
theorem sm_add {n : Nat} {f g : Nat → Int} : sm n (fun i => f i + g i) = sm n f + sm n g := by
  induction n with
  | zero => rfl
  | succ n ih => unfold sm; rw [ih]; dsimp only; omega
theorem sm_sub {n : Nat} {f g : Nat → Int} : sm n (fun i => f i - g i) = sm n f - sm n g := by
  induction n with
  | zero => rfl
  | succ n ih => unfold sm; rw [ih]; dsimp only; omega
theorem sm_mul {n : Nat} {f : Nat → Int} {a : Int} : sm n (fun i => a * f i) = a * sm n f := by
  induction n with
  | zero => show (0 : Int) = a * 0; omega
  | succ n ih => unfold sm; rw [ih, Int.mul_add]
theorem sm_mulr {n : Nat} {f : Nat → Int} {a : Int} : sm n (fun i => f i * a) = sm n f * a := by
  rw [Int.mul_comm, ← sm_mul]
  exact sm_congr fun i _ => Int.mul_comm _ _
theorem sm_zero {n : Nat} {f : Nat → Int} (h : ∀ i, i < n → f i = 0) : sm n f = 0 := by
  induction n with
  | zero => rfl
  | succ n ih => unfold sm; rw [ih fun i hi => h i (by omega), h n (by omega)]; rfl
theorem sm_one {n : Nat} {f : Nat → Int} {k : Nat} (hk : k < n) (h : ∀ i, i < n → i ≠ k → f i = 0) : sm n f = f k := by
  induction n with
  | zero => omega
  | succ n ih =>
    unfold sm
    by_cases e : k = n
    · subst e
      rw [sm_zero fun i hi => h i (by omega) (by omega)]
      omega
    · rw [ih (by omega) fun i hi ne => h i (by omega) ne, h n (by omega) (by omega)]
      omega
theorem sm_two {n : Nat} {f : Nat → Int} {k l : Nat} (hk : k < n) (hl : l < n) (hkl : k ≠ l) (h : ∀ i, i < n → i ≠ k → i ≠ l → f i = 0) : sm n f = f k + f l := by
  have e : sm n f = sm n (fun i => if i = k then f i else 0) + sm n (fun i => if i = k then 0 else f i) := by
    rw [← sm_add]
    refine sm_congr fun i _ => ?_
    split <;> omega
  rw [e, sm_one hk (fun i hi ne => if_neg ne), sm_one hl (fun i hi ne => ?_), if_pos rfl, if_neg (Ne.symm hkl)]
  split
  · rfl
  · exact h i hi (by assumption) ne
theorem sm_swap {n m : Nat} {f : Nat → Nat → Int} : sm n (fun i => sm m (f i)) = sm m (fun j => sm n fun i => f i j) := by
  induction n with
  | zero => show 0 = sm m (fun j => 0); rw [sm_zero fun _ _ => rfl]
  | succ n ih =>
    show sm n (fun i => sm m (f i)) + sm m (f n) = sm m (fun j => sm n (fun i => f i j) + f n j)
    rw [ih, sm_add]
theorem sm_le {n : Nat} {f g : Nat → Int} (h : ∀ i, i < n → f i ≤ g i) : sm n f ≤ sm n g := by
  induction n with
  | zero => exact Int.le_refl _
  | succ n ih =>
    unfold sm
    have := ih fun i hi => h i (by omega)
    have := h n (by omega)
    omega
theorem sm_nonneg {n : Nat} {f : Nat → Int} (h : ∀ i, i < n → 0 ≤ f i) : 0 ≤ sm n f := by
  have := sm_le h
  rwa [sm_zero fun _ _ => rfl] at this
theorem sm_pos {n : Nat} {f : Nat → Int} (h : 0 < sm n f) : ∃ i, i < n ∧ 0 < f i := by
  induction n with
  | zero => cases h
  | succ n ih =>
    unfold sm at h
    by_cases h2 : 0 < sm n f
    · obtain ⟨i, hi, h3⟩ := ih h2
      exact ⟨i, by omega, h3⟩
    · exact ⟨n, by omega, by omega⟩
abbrev Vec := Nat → Int
/-- column i left out, the first coordinate dropped -/
def cut (f : Nat → Vec) (i : Nat) : Nat → Vec := fun k x => (if k < i then f k else f (k + 1)) (x + 1)
def sg (i : Nat) : Int := if i % 2 = 0 then 1 else -1
theorem sg_succ (i : Nat) : sg (i + 1) = - sg i := by
  unfold sg
  by_cases h : i % 2 = 0
  · rw [if_pos h, if_neg (by omega)]
  · rw [if_neg h, if_pos (by omega)]; rfl
def det : Nat → (Nat → Vec) → Int
  | 0, _ => 1
  | n + 1, f => sm (n + 1) fun i => sg i * f i 0 * det n (cut f i)
theorem det_congr : ∀ {n : Nat} {f g : Nat → Vec}, (∀ i, i < n → ∀ x, x < n → f i x = g i x) → det n f = det n g
  | 0, _, _, _ => rfl
  | n + 1, f, g, h => by
    unfold det
    refine sm_congr fun i hi => ?_
    rw [h i hi 0 (by omega), det_congr (f := cut f i) (g := cut g i) fun k hk x hx => ?_]
    unfold cut
    split
    · exact h k (by omega) (x + 1) (by omega)
    · exact h (k + 1) (by omega) (x + 1) (by omega)
def put (f : Nat → Vec) (k : Nat) (v : Vec) : Nat → Vec := fun i => if i = k then v else f i
theorem put_self {f : Nat → Vec} {k : Nat} {v : Vec} : put f k v k = v := if_pos rfl
theorem put_ne {f : Nat → Vec} {k i : Nat} {v : Vec} (h : i ≠ k) : put f k v i = f i := if_neg h
theorem put_put {f : Nat → Vec} {k : Nat} {v w : Vec} : put (put f k v) k w = put f k w := by
  funext i
  unfold put
  split <;> rfl
theorem put_id {f : Nat → Vec} {k : Nat} : put f k (f k) = f := by
  funext i
  unfold put
  split
  · rename_i h; rw [h]
  · rfl
theorem put_comm {f : Nat → Vec} {k l : Nat} {v w : Vec} (h : k ≠ l) : put (put f k v) l w = put (put f l w) k v := by
  funext i
  unfold put
  by_cases h1 : i = k
  · by_cases h2 : i = l
    · omega
    · rw [if_neg h2, if_pos h1, if_pos h1]
  · by_cases h2 : i = l
    · rw [if_pos h2, if_neg h1, if_pos h2]
    · rw [if_neg h2, if_neg h1, if_neg h1, if_neg h2]
theorem cut_put_eq {f : Nat → Vec} {k : Nat} {v : Vec} : cut (put f k v) k = cut f k := by
  funext i x
  unfold cut put
  by_cases h : i < k
  · rw [if_pos h, if_pos h, if_neg (by omega)]
  · rw [if_neg h, if_neg h, if_neg (by omega)]
theorem cut_at {f : Nat → Vec} {i j x : Nat} : cut f i j x = (if j < i then f j else f (j + 1)) (x + 1) := rfl
theorem put_at {f : Nat → Vec} {k j : Nat} {v : Vec} : put f k v j = if j = k then v else f j := rfl
theorem cut_put_lt {f : Nat → Vec} {k i : Nat} {v : Vec} (h : k < i) : cut (put f k v) i = put (cut f i) k (fun x => v (x + 1)) := by
  funext j x
  rw [cut_at, put_at, put_at, put_at]
  by_cases h1 : j < i
  · rw [if_pos h1]
    by_cases h2 : j = k
    · rw [if_pos h2, if_pos h2]
    · rw [if_neg h2, if_neg h2, cut_at, if_pos h1]
  · rw [if_neg h1, if_neg (by omega), if_neg (by omega), cut_at, if_neg h1]
theorem cut_put_gt {f : Nat → Vec} {k i : Nat} {v : Vec} (h : i < k) : cut (put f k v) i = put (cut f i) (k - 1) (fun x => v (x + 1)) := by
  funext j x
  rw [cut_at, put_at, put_at, put_at]
  by_cases h1 : j < i
  · rw [if_pos h1, if_neg (by omega), if_neg (by omega), cut_at, if_pos h1]
  · rw [if_neg h1]
    by_cases h2 : j = k - 1
    · rw [if_pos (by omega), if_pos h2]
    · rw [if_neg (by omega), if_neg h2, cut_at, if_neg h1]
/-- linear in each column -/
theorem det_lin : ∀ {n : Nat} {f : Nat → Vec} {k : Nat} {a b : Int} {v w : Vec}, k < n → det n (put f k fun x => a * v x + b * w x) = a * det n (put f k v) + b * det n (put f k w)
  | 0, _, _, _, _, _, _, h => by omega
  | n + 1, f, k, a, b, v, w, hk => by
    unfold det
    rw [← sm_mul, ← sm_mul, ← sm_add]
    refine sm_congr fun i hi => ?_
    rcases Nat.lt_trichotomy i k with h | h | h
    · rw [cut_put_gt h, cut_put_gt h, cut_put_gt h, put_ne (by omega), put_ne (by omega), put_ne (by omega)]
      rw [det_lin (n := n) (f := cut f i) (k := k - 1) (a := a) (b := b) (v := fun x => v (x + 1)) (w := fun x => w (x + 1)) (by omega)]
      grind
    · subst h
      rw [cut_put_eq, cut_put_eq, cut_put_eq, put_self, put_self, put_self]
      grind
    · rw [cut_put_lt h, cut_put_lt h, cut_put_lt h, put_ne (by omega), put_ne (by omega), put_ne (by omega)]
      rw [det_lin (n := n) (f := cut f i) (k := k) (a := a) (b := b) (v := fun x => v (x + 1)) (w := fun x => w (x + 1)) (by omega)]
      grind
theorem det_zero {n : Nat} {f : Nat → Vec} {k : Nat} (hk : k < n) (h : ∀ x, x < n → f k x = 0) : det n f = 0 := by
  have e : det n f = det n (put f k fun x => 0 * f k x + 0 * f k x) := det_congr fun i hi x hx => by
    by_cases e : i = k
    · subst e; rw [put_self, h x hx]; omega
    · rw [put_ne e]
  rw [e, det_lin hk]
  omega
/-- neighbours alike -/
theorem det_adj : ∀ {n : Nat} {f : Nat → Vec} {k : Nat}, k + 1 < n → (∀ x, x < n → f k x = f (k + 1) x) → det n f = 0
  | 0, _, _, h, _ => by omega
  | n + 1, f, k, hk, h => by
    unfold det
    have e : cut f k = cut f k := rfl
    have c : det n (cut f k) = det n (cut f (k + 1)) := det_congr fun i hi x hx => by
      unfold cut
      by_cases h1 : i < k
      · rw [if_pos h1, if_pos (by omega)]
      · by_cases h2 : i = k
        · subst h2
          rw [if_neg (by omega), if_pos (by omega)]
          exact (h _ (by omega)).symm
        · rw [if_neg (by omega), if_neg (by omega)]
    rw [sm_two (k := k) (l := k + 1) (by omega) hk (by omega) fun i hi h1 h2 => ?_]
    · rw [c, sg_succ, h 0 (by omega)]
      grind
    · have z : det n (cut f i) = 0 := by
        by_cases hlt : i < k
        · refine det_adj (k := k - 1) (by omega) fun x hx => ?_
          unfold cut
          rw [if_neg (by omega), if_neg (by omega), show k - 1 + 1 = k by omega]
          exact h _ (by omega)
        · refine det_adj (k := k) (by omega) fun x hx => ?_
          unfold cut
          rw [if_pos (by omega), if_pos (by omega)]
          exact h _ (by omega)
      rw [z, Int.mul_zero]
theorem det_sum2 {n : Nat} {f : Nat → Vec} {k : Nat} {v w : Vec} (hk : k < n) : det n (put f k fun x => v x + w x) = det n (put f k v) + det n (put f k w) := by
  have := det_lin (n := n) (f := f) (k := k) (a := 1) (b := 1) (v := v) (w := w) hk
  rw [Int.one_mul, Int.one_mul] at this
  rw [← this]
  exact det_congr fun i hi x hx => by
    rw [put_at, put_at]
    split
    · show v x + w x = 1 * v x + 1 * w x
      omega
    · rfl
/-- two columns: exchanged, the sign is -/
theorem det_swap_adj {n : Nat} {f : Nat → Vec} {k : Nat} {v w : Vec} (hk : k + 1 < n) : det n (put (put f k v) (k + 1) w) = - det n (put (put f k w) (k + 1) v) := by
  have ne : k ≠ k + 1 := by omega
  have z : ∀ u : Vec, det n (put (put f k u) (k + 1) u) = 0 := fun u => det_adj hk fun x hx => by
    rw [put_ne ne, put_self, put_self]
  have h := z fun x => v x + w x
  rw [det_sum2 hk, put_comm ne, put_comm ne, det_sum2 (by omega), det_sum2 (by omega), put_comm ne.symm, put_comm ne.symm, put_comm ne.symm, put_comm ne.symm, z, z] at h
  omega
theorem det_alt : ∀ (g : Nat) {n : Nat} {f : Nat → Vec} {i : Nat}, i + g + 1 < n → (∀ x, x < n → f i x = f (i + g + 1) x) → det n f = 0
  | 0, n, f, i, h, e => det_adj h e
  | g + 1, n, f, i, h, e => by
    have ne : i + g + 1 ≠ i + g + 1 + 1 := by omega
    have e0 : f = put (put f (i + g + 1) (f (i + g + 1))) (i + g + 1 + 1) (f (i + g + 1 + 1)) := by
      rw [put_id, put_id]
    rw [e0, det_swap_adj (by omega), det_alt g (i := i) (by omega) fun x hx => ?_]
    · rfl
    · rw [put_ne (by omega), put_ne (by omega), put_ne ne, put_self]
      exact e x hx
theorem det_same {n : Nat} {f : Nat → Vec} {i j : Nat} (hi : i < n) (hj : j < n) (hij : i ≠ j) (e : ∀ x, x < n → f i x = f j x) : det n f = 0 := by
  rcases Nat.lt_or_gt_of_ne hij with h | h
  · obtain ⟨g, rfl⟩ : ∃ g, j = i + g + 1 := ⟨j - i - 1, by omega⟩
    exact det_alt g hj e
  · obtain ⟨g, rfl⟩ : ∃ g, i = j + g + 1 := ⟨i - j - 1, by omega⟩
    exact det_alt g hi fun x hx => (e x hx).symm
theorem det_swap {n : Nat} {f : Nat → Vec} {i j : Nat} {v w : Vec} (hi : i < n) (hj : j < n) (hij : i ≠ j) : det n (put (put f i v) j w) = - det n (put (put f i w) j v) := by
  have z : ∀ u : Vec, det n (put (put f i u) j u) = 0 := fun u => det_same hi hj hij fun x hx => by
    rw [put_ne hij, put_self, put_self]
  have h := z fun x => v x + w x
  rw [det_sum2 hj, put_comm hij, put_comm hij, det_sum2 hi, det_sum2 hi, put_comm hij.symm, put_comm hij.symm, put_comm hij.symm, put_comm hij.symm, z, z] at h
  omega
/-- the unit columns -/
def un (k : Nat) : Vec := fun x => if x = k then 1 else 0
theorem det_un : ∀ n : Nat, det n un = 1
  | 0 => rfl
  | n + 1 => by
    unfold det
    rw [sm_one (k := 0) (by omega) fun i hi h => ?_]
    · have : det n (cut un 0) = det n un := det_congr fun i hi x hx => by
        unfold cut un
        rw [if_neg (by omega)]
        by_cases h : x = i
        · rw [if_pos (by omega), if_pos h]
        · rw [if_neg (by omega), if_neg h]
      rw [this, det_un n]
      rfl
    · unfold un
      rw [if_neg (by omega)]
      grind
/-- a column that is a sum of columns -/
theorem det_sm {n m : Nat} {f : Nat → Vec} {k : Nat} {c : Nat → Int} {v : Nat → Vec} (hk : k < n) : det n (put f k fun x => sm m fun j => c j * v j x) = sm m fun j => c j * det n (put f k (v j)) := by
  induction m with
  | zero =>
    refine det_zero hk fun x hx => ?_
    rw [put_self]
    rfl
  | succ m ih =>
    have e := det_lin (n := n) (f := f) (k := k) (a := 1) (b := c m) (v := fun x => sm m fun j => c j * v j x) (w := v m) hk
    rw [ih] at e
    unfold sm
    rw [Int.one_mul] at e
    rw [← e]
    exact det_congr fun i hi x hx => by
      rw [put_at, put_at]
      split
      · show sm m (fun j => c j * v j x) + c m * v m x = 1 * sm m (fun j => c j * v j x) + c m * v m x
        omega
      · rfl
section
variable (M N : Nat) (A : Nat → Vec) (c : Nat → Int)
def dB (β : Nat → Nat) : Int := det M fun i => A (β i)
def Tk (β : Nat → Nat) (k j : Nat) : Int := det M (put (fun i => A (β i)) k (A j))
def bl (β : Nat → Nat) (j : Nat) : Int := sm M (fun k => c (β k) * Tk M A β k j) - dB M A β * c j
def nx (β : Nat → Nat) (r q : Nat) : Nat → Nat := fun i => if i = r then q else β i
structure Tab (β : Nat → Nat) : Prop where
  dpos : 0 < dB M A β
  bas : ∀ k, k < M → β k < N
  span : ∀ j, j ≤ N → ∀ x, x < M → dB M A β * A j x = sm M fun k => Tk M A β k j * A (β k) x
  feas : ∀ k, k < M → 0 ≤ Tk M A β k N
structure Lev (β : Nat → Nat) (q r : Nat) : Prop where
  lt : r < M
  pos : 0 < Tk M A β r q
  least : ∀ k, k < M → 0 < Tk M A β k q → Tk M A β r N * Tk M A β k q ≤ Tk M A β k N * Tk M A β r q ∧ (Tk M A β r N * Tk M A β k q = Tk M A β k N * Tk M A β r q → β r ≤ β k)
structure Ent (β : Nat → Nat) (q : Nat) : Prop where
  lt : q < N
  neg : bl M A c β q < 0
  first : ∀ j, j < q → 0 ≤ bl M A c β j
end
section
variable {M N : Nat} {A : Nat → Vec} {c : Nat → Int} {β : Nat → Nat}
theorem Tk_bas {k l : Nat} (hk : k < M) (hl : l < M) : Tk M A β k (β l) = if k = l then dB M A β else 0 := by
  unfold Tk
  split
  · rename_i e
    subst e
    rw [show A (β k) = (fun i => A (β i)) k from rfl, put_id]
    rfl
  · rename_i e
    refine det_same hk hl e fun x hx => ?_
    rw [put_self, put_ne (Ne.symm e)]
theorem Tab.inj (t : Tab M N A β) {k l : Nat} (hk : k < M) (hl : l < M) (e : β k = β l) : k = l := by
  have h1 := Tk_bas (A := A) (β := β) hk hl
  rw [← e, Tk_bas hk hk, if_pos rfl] at h1
  by_cases h : k = l
  · exact h
  · rw [if_neg h] at h1
    have := t.dpos
    omega
theorem Tab.lin (t : Tab M N A β) {f : Nat → Vec} {i j : Nat} (hi : i < M) (hj : j ≤ N) : dB M A β * det M (put f i (A j)) = sm M fun k => Tk M A β k j * det M (put f i (A (β k))) := by
  rw [← det_sm (v := fun k => A (β k)) hi]
  have h := det_lin (n := M) (f := f) (k := i) (a := dB M A β) (b := 0) (v := A j) (w := A j) hi
  rw [show dB M A β * det M (put f i (A j)) = dB M A β * det M (put f i (A j)) + 0 * det M (put f i (A j)) by omega, ← h]
  refine det_congr fun k hk x hx => ?_
  rw [put_at, put_at]
  split
  · show dB M A β * A j x + 0 * A j x = sm M fun k => Tk M A β k j * A (β k) x
    rw [← t.span j hj x hx]
    omega
  · rfl
theorem nx_cols {r q : Nat} : (fun i => A (nx β r q i)) = put (fun i => A (β i)) r (A q) := by
  funext i
  unfold nx put
  split <;> rfl
theorem piv_d {r q : Nat} : dB M A (nx β r q) = Tk M A β r q := by
  unfold dB Tk
  rw [nx_cols]
theorem piv_row {r q j : Nat} : Tk M A (nx β r q) r j = Tk M A β r j := by
  unfold Tk
  rw [nx_cols, put_put]
theorem Tab.piv (t : Tab M N A β) {r q i j : Nat} (hr : r < M) (hi : i < M) (hir : i ≠ r) (hj : j ≤ N) : dB M A β * Tk M A (nx β r q) i j = Tk M A β r q * Tk M A β i j - Tk M A β i q * Tk M A β r j := by
  unfold Tk
  rw [nx_cols]
  rw [t.lin hi hj]
  rw [sm_two hi hr hir fun k hk h1 h2 => ?_]
  · have e1 : det M (put (put (fun i => A (β i)) r (A q)) i (A (β i))) = det M (put (fun i => A (β i)) r (A q)) := by
      have : ∀ f : Nat → Vec, put (put f r (A q)) i (f i) = put f r (A q) := fun f => by
        have h := put_id (f := put f r (A q)) (k := i)
        rw [put_ne hir] at h
        exact h
      rw [show A (β i) = (fun i => A (β i)) i from rfl, this]
    have e2 : det M (put (put (fun i => A (β i)) r (A q)) i (A (β r))) = - det M (put (fun i => A (β i)) i (A q)) := by
      rw [det_swap hr hi hir.symm]
      have : A (β r) = (fun i => A (β i)) r := rfl
      rw [this, put_id]
    rw [e1, e2]
    show Tk M A β i j * _ + Tk M A β r j * _ = _
    unfold Tk
    grind
  · have : det M (put (put (fun i => A (β i)) r (A q)) i (A (β k))) = 0 := det_same hi hk (Ne.symm h1) fun x hx => by
      rw [put_self, put_ne h1, put_ne h2]
    rw [this, Int.mul_zero]
theorem Tab.pivbl (t : Tab M N A β) {r q j : Nat} (hr : r < M) (hj : j ≤ N) : dB M A β * bl M A c (nx β r q) j = Tk M A β r q * bl M A c β j - bl M A c β q * Tk M A β r j := by
  have e : dB M A β * sm M (fun k => c (nx β r q k) * Tk M A (nx β r q) k j) = sm M (fun k => (Tk M A β r q * (c (β k) * Tk M A β k j) - Tk M A β r j * (c (β k) * Tk M A β k q)) + if k = r then c q * dB M A β * Tk M A β r j else 0) := by
    rw [← sm_mul]
    refine sm_congr fun k hk => ?_
    by_cases h : k = r
    · subst h
      rw [if_pos rfl, piv_row]
      unfold nx
      rw [if_pos rfl]
      grind
    · have h1 := t.piv (q := q) hr hk h hj
      rw [if_neg h]
      have h2 : nx β r q k = β k := if_neg h
      rw [h2]
      grind
  rw [sm_add, sm_sub, sm_mul, sm_mul, sm_one (k := r) hr (fun i hi h => if_neg h), if_pos rfl] at e
  unfold bl
  rw [piv_d]
  grind
theorem Tab.next (t : Tab M N A β) {q r : Nat} (hq : q < N) (l : Lev M N A β q r) : Tab M N A (nx β r q) := by
  have d0 := t.dpos
  have p0 := l.pos
  refine ⟨by rw [piv_d]; exact p0, fun k hk => ?_, fun j hj x hx => ?_, fun k hk => ?_⟩
  · unfold nx
    split
    · exact hq
    · exact t.bas k hk
  · refine Int.eq_of_mul_eq_mul_left (show dB M A β ≠ 0 by omega) ?_
    rw [piv_d, ← sm_mul]
    have e : sm M (fun k => dB M A β * (Tk M A (nx β r q) k j * A (nx β r q k) x)) = sm M (fun k => (Tk M A β r q * (Tk M A β k j * A (β k) x) - Tk M A β r j * (Tk M A β k q * A (β k) x)) + if k = r then dB M A β * Tk M A β r j * A q x else 0) := by
      refine sm_congr fun k hk => ?_
      by_cases h : k = r
      · subst h
        rw [if_pos rfl, piv_row]
        unfold nx
        rw [if_pos rfl]
        grind
      · have h1 := t.piv (q := q) l.lt hk h hj
        rw [if_neg h]
        have h2 : nx β r q k = β k := if_neg h
        rw [h2]
        grind
    rw [e, sm_add, sm_sub, sm_mul, sm_mul, sm_one (k := r) l.lt (fun i hi h => if_neg h), if_pos rfl, ← t.span j hj x hx, ← t.span q (by omega) x hx]
    grind
  · by_cases h : k = r
    · subst h
      rw [piv_row]
      exact t.feas k hk
    · have h1 := t.piv (q := q) l.lt hk h (Nat.le_refl N)
      have f1 := t.feas k hk
      have f2 := t.feas r l.lt
      have h3 : 0 ≤ dB M A β * Tk M A (nx β r q) k N := by
        rw [h1]
        by_cases hp : 0 < Tk M A β k q
        · have := (l.least k hk hp).1
          have e1 := Int.mul_comm (Tk M A β r q) (Tk M A β k N)
          have e2 := Int.mul_comm (Tk M A β k q) (Tk M A β r N)
          omega
        · have a1 : 0 ≤ Tk M A β r q * Tk M A β k N := Int.mul_nonneg (by omega) f1
          have a2 : Tk M A β k q * Tk M A β r N ≤ 0 := Int.mul_nonpos_of_nonpos_of_nonneg (by omega) f2
          omega
      exact Int.nonneg_of_mul_nonneg_right h3 d0
/-- there is always a row that bounds -/
theorem Tab.bound (t : Tab M N A β) (hA : ∀ j x, 0 ≤ A j x) (hC : ∀ j, j < N → ∃ x, x < M ∧ 0 < A j x) {q : Nat} (hq : q < N) : ∃ k, k < M ∧ 0 < Tk M A β k q := by
  obtain ⟨x, hx, hp⟩ := hC q hq
  have h := t.span q (by omega) x hx
  have h2 : 0 < sm M fun k => Tk M A β k q * A (β k) x := by
    rw [← h]
    exact Int.mul_pos t.dpos hp
  obtain ⟨k, hk, h3⟩ := sm_pos h2
  refine ⟨k, hk, ?_⟩
  have := hA (β k) x
  by_cases h4 : 0 < Tk M A β k q
  · exact h4
  · have := Int.mul_nonpos_of_nonpos_of_nonneg (show Tk M A β k q ≤ 0 by omega) this
    omega
/-- the row that one set of numbers bounds, by another one's -/
theorem Tab.cross (t : Tab M N A β) {γ : Nat → Nat} {s : Nat} (hs : s ≤ N) : sm M (fun k => bl M A c γ (β k) * Tk M A β k s) = dB M A β * bl M A c γ s - dB M A γ * bl M A c β s := by
  have e : ∀ i, i < M → dB M A β * Tk M A γ i s = sm M fun k => Tk M A β k s * Tk M A γ i (β k) := fun i hi => t.lin hi hs
  have h1 : sm M (fun k => bl M A c γ (β k) * Tk M A β k s) = sm M (fun k => sm M fun i => c (γ i) * Tk M A γ i (β k) * Tk M A β k s) - dB M A γ * sm M fun k => c (β k) * Tk M A β k s := by
    rw [← sm_mul, ← sm_sub]
    refine sm_congr fun k hk => ?_
    rw [sm_mulr]
    unfold bl
    grind
  rw [h1, sm_swap]
  have h2 : sm M (fun i => sm M fun k => c (γ i) * Tk M A γ i (β k) * Tk M A β k s) = dB M A β * sm M fun i => c (γ i) * Tk M A γ i s := by
    rw [← sm_mul]
    refine sm_congr fun i hi => ?_
    rw [show dB M A β * (c (γ i) * Tk M A γ i s) = c (γ i) * (dB M A β * Tk M A γ i s) by grind, e i hi, ← sm_mul]
    exact sm_congr fun k hk => by grind
  rw [h2]
  unfold bl
  grind
end
section
variable {M N : Nat} {A : Nat → Vec} {c : Nat → Int} {β : Nat → Nat}
theorem bl_bas {l : Nat} (hl : l < M) : bl M A c β (β l) = 0 := by
  unfold bl
  rw [sm_one (k := l) hl fun i hi h => ?_, Tk_bas hl hl, if_pos rfl]
  · grind
  · rw [Tk_bas hi hl, if_neg h, Int.mul_zero]
def xv (M N : Nat) (A : Nat → Vec) (β : Nat → Nat) (v : Nat) : Int := sm M fun k => if β k = v then Tk M A β k N else 0
theorem xv_non {v : Nat} (h : ∀ k, k < M → β k ≠ v) : xv M N A β v = 0 := sm_zero fun k hk => if_neg (h k hk)
theorem Tab.xv_bas (t : Tab M N A β) {k : Nat} (hk : k < M) : xv M N A β (β k) = Tk M A β k N := by
  unfold xv
  rw [sm_one (k := k) hk fun i hi h => if_neg fun e => h (t.inj hi hk e), if_pos rfl]
theorem Tab.xv_next (t : Tab M N A β) {q r v : Nat} (hr : r < M) (z : Tk M A β r N = 0) : dB M A β * xv M N A (nx β r q) v = Tk M A β r q * xv M N A β v := by
  unfold xv
  rw [← sm_mul, ← sm_mul]
  refine sm_congr fun k hk => ?_
  by_cases h : k = r
  · subst h
    rw [piv_row, z]
    grind
  · have h1 := t.piv (q := q) hr hk h (Nat.le_refl N)
    have h2 : nx β r q k = β k := if_neg h
    rw [h2]
    by_cases e : β k = v
    · rw [if_pos e, if_pos e, h1, z]
      grind
    · rw [if_neg e, if_neg e]
      grind
/-- a walk by Bland's rule that comes back -/
structure Loop (M N : Nat) (A : Nat → Vec) (c : Nat → Int) (L : Nat) (b : Nat → Nat → Nat) (q r : Nat → Nat) : Prop where
  pos : 0 < L
  tab : Tab M N A (b 0)
  ent : ∀ k, k < L → Ent M N A c (b k) (q k)
  lev : ∀ k, k < L → Lev M N A (b k) (q k) (r k)
  step : ∀ k, k < L → b (k + 1) = nx (b k) (r k) (q k)
  back : b L = b 0
variable {L : Nat} {b : Nat → Nat → Nat} {q r : Nat → Nat}
theorem Loop.tabs (l : Loop M N A c L b q r) : ∀ k, k ≤ L → Tab M N A (b k)
  | 0, _ => l.tab
  | k + 1, h => by
    rw [l.step k (by omega)]
    exact (l.tabs k (by omega)).next (l.ent k (by omega)).lt (l.lev k (by omega))
theorem Loop.up (l : Loop M N A c L b q r) {k : Nat} (hk : k < L) : bl M A c (b (k + 1)) N * dB M A (b k) = bl M A c (b k) N * dB M A (b (k + 1)) + (- bl M A c (b k) (q k)) * Tk M A (b k) (r k) N := by
  have h := (l.tabs k (by omega)).pivbl (c := c) (q := q k) (l.lev k hk).lt (Nat.le_refl N)
  rw [← l.step k hk] at h
  have h2 : dB M A (b (k + 1)) = Tk M A (b k) (r k) (q k) := by rw [l.step k hk, piv_d]
  rw [h2]
  grind
theorem frac_tr {a b c x y z : Int} (hx : 0 < x) (hy : 0 < y) (hz : 0 < z) (h1 : a * y ≤ b * x) (h2 : b * z ≤ c * y) : a * z ≤ c * x := by
  have e1 : a * y * z ≤ b * x * z := Int.mul_le_mul_of_nonneg_right h1 (by omega)
  have e2 : b * z * x ≤ c * y * x := Int.mul_le_mul_of_nonneg_right h2 (by omega)
  have e3 : (a * z) * y ≤ (c * x) * y := by grind
  exact Int.le_of_mul_le_mul_right e3 hy
theorem Loop.rise (l : Loop M N A c L b q r) {i : Nat} : ∀ g, i + g ≤ L → bl M A c (b i) N * dB M A (b (i + g)) ≤ bl M A c (b (i + g)) N * dB M A (b i)
  | 0, _ => Int.le_refl _
  | g + 1, h => by
    have h1 := l.rise g (i := i) (by omega)
    have h2 := l.up (k := i + g) (by omega)
    have h3 : 0 ≤ (- bl M A c (b (i + g)) (q (i + g))) * Tk M A (b (i + g)) (r (i + g)) N := Int.mul_nonneg (by have := (l.ent (i + g) (by omega)).neg; omega) ((l.tabs _ (by omega)).feas _ (l.lev (i + g) (by omega)).lt)
    exact frac_tr (l.tabs i (by omega)).dpos (l.tabs (i + g) (by omega)).dpos (l.tabs (i + g + 1) (by omega)).dpos h1 (by rw [show i + (g + 1) = i + g + 1 from rfl, h2]; omega)
theorem Loop.flat (l : Loop M N A c L b q r) {k : Nat} (hk : k < L) : Tk M A (b k) (r k) N = 0 := by
  have f := (l.tabs k (by omega)).feas (r k) (l.lev k hk).lt
  by_cases h : Tk M A (b k) (r k) N = 0
  · exact h
  · exfalso
    have h1 := l.rise (i := 0) k (by omega)
    rw [Nat.zero_add] at h1
    have h2 := l.rise (i := k + 1) (L - (k + 1)) (by omega)
    rw [show k + 1 + (L - (k + 1)) = L by omega, l.back] at h2
    have h3 := frac_tr (l.tabs (k + 1) (by omega)).dpos l.tab.dpos (l.tabs k (by omega)).dpos h2 h1
    have h4 := l.up hk
    have h5 : 0 < (- bl M A c (b k) (q k)) * Tk M A (b k) (r k) N := Int.mul_pos (by have := (l.ent k hk).neg; omega) (by omega)
    omega
theorem Loop.xz (l : Loop M N A c L b q r) {k v : Nat} (hk : k < L) : xv M N A (b k) v = 0 ↔ xv M N A (b (k + 1)) v = 0 := by
  have h := (l.tabs k (by omega)).xv_next (q := q k) (v := v) (l.lev k hk).lt (l.flat hk)
  rw [← l.step k hk] at h
  have d := (l.tabs k (by omega)).dpos
  have p := (l.lev k hk).pos
  constructor
  · intro e
    rw [e, Int.mul_zero] at h
    rcases Int.mul_eq_zero.mp h with h | h
    · omega
    · exact h
  · intro e
    rw [e, Int.mul_zero] at h
    rcases Int.mul_eq_zero.mp h.symm with h | h
    · omega
    · exact h
theorem Loop.xz0 (l : Loop M N A c L b q r) {v : Nat} : ∀ k, k ≤ L → (xv M N A (b k) v = 0 ↔ xv M N A (b 0) v = 0)
  | 0, _ => Iff.rfl
  | k + 1, h => (l.xz (by omega)).symm.trans (l.xz0 k (by omega))
theorem max_at : ∀ (L : Nat) (q : Nat → Nat), 0 < L → ∃ k, k < L ∧ ∀ i, i < L → q i ≤ q k
  | 0, _, h => by omega
  | 1, q, _ => ⟨0, by omega, fun i hi => by rw [show i = 0 by omega]; exact Nat.le_refl _⟩
  | L + 2, q, _ => by
    obtain ⟨k, hk, h⟩ := max_at (L + 1) q (by omega)
    by_cases e : q k ≤ q (L + 1)
    · refine ⟨L + 1, by omega, fun i hi => ?_⟩
      by_cases e2 : i = L + 1
      · rw [e2]; exact Nat.le_refl _
      · exact Nat.le_trans (h i (by omega)) e
    · refine ⟨k, by omega, fun i hi => ?_⟩
      by_cases e2 : i = L + 1
      · rw [e2]; omega
      · exact h i (by omega)
/-- what stays from step to step stays all around -/
theorem Loop.around (l : Loop M N A c L b q r) (P : (Nat → Nat) → Prop) (h : ∀ k, k < L → P (b k) → P (b (k + 1))) {i j : Nat} (hi : i ≤ L) (hj : j ≤ L) (hp : P (b i)) : P (b j) := by
  have go : ∀ i g, i + g ≤ L → P (b i) → P (b (i + g)) := by
    intro i g
    induction g with
    | zero => exact fun _ h => h
    | succ g ih => exact fun h1 h2 => h (i + g) (by omega) (ih (by omega) h2)
  have h1 := go i (L - i) (by omega) hp
  rw [show i + (L - i) = L by omega, l.back] at h1
  have h2 := go 0 j (by omega) h1
  rwa [Nat.zero_add] at h2
theorem Loop.no (l : Loop M N A c L b q r) : False := by
  obtain ⟨u, hu, top⟩ := max_at L q l.pos
  have non : ∀ k, k < L → ∀ i, i < M → b k i ≠ q k := fun k hk i hi e => by
    have h1 := (l.ent k hk).neg
    rw [← e, bl_bas hi] at h1
    omega
  have leaves : ∃ k, k < L ∧ b k (r k) = q u := by
    refine Classical.byContradiction fun hn => ?_
    have stay := l.around (fun β => ∃ i, i < M ∧ β i = q u) (fun k hk ⟨i, hi, e⟩ => ⟨i, hi, by
      rw [l.step k hk]
      unfold nx
      rw [if_neg fun h => hn ⟨k, hk, by rw [← h]; exact e⟩]
      exact e⟩) (i := u + 1) (j := u) (by omega) (by omega) ⟨r u, (l.lev u hu).lt, by
        rw [l.step u hu]
        exact if_pos rfl⟩
    obtain ⟨i, hi, e⟩ := stay
    exact non u hu i hi e
  obtain ⟨k, hk, hl⟩ := leaves
  have tk := l.tabs k (by omega)
  have tu := l.tabs u (by omega)
  have s1 : q k < q u := by
    have h1 := top k hk
    have h2 : q k ≠ q u := fun e => non k hk (r k) (l.lev k hk).lt (hl.trans e.symm)
    omega
  have s2 := (l.ent u hu).first (q k) s1
  have cr := tk.cross (c := c) (γ := b u) (s := q k) (Nat.le_of_lt (l.ent k hk).lt)
  have pos : 0 < sm M fun i => bl M A c (b u) (b k i) * Tk M A (b k) i (q k) := by
    rw [cr]
    have h1 : 0 ≤ dB M A (b k) * bl M A c (b u) (q k) := Int.mul_nonneg (by have := tk.dpos; omega) s2
    have h2 : dB M A (b u) * bl M A c (b k) (q k) < 0 := Int.mul_neg_of_pos_of_neg tu.dpos (l.ent k hk).neg
    omega
  obtain ⟨i, hi, hp⟩ := sm_pos pos
  have nu : ∀ j, j < M → b u j ≠ b k i := fun j hj e => by
    rw [← e, bl_bas hj, Int.zero_mul] at hp
    omega
  have enters : ∃ m, m < L ∧ q m = b k i := by
    refine Classical.byContradiction fun hn => ?_
    have stay := l.around (fun β => ∀ j, j < M → β j ≠ b k i) (fun m hm h j hj e => by
      rw [l.step m hm] at e
      unfold nx at e
      split at e
      · exact hn ⟨m, hm, e⟩
      · exact h j hj e) (i := u) (j := k) (by omega) (by omega) nu
    exact stay i hi rfl
  obtain ⟨m, hm, hv⟩ := enters
  have vt : b k i ≤ q u := by rw [← hv]; exact top m hm
  by_cases e : b k i = q u
  · have ei : i = r k := tk.inj hi (l.lev k hk).lt (e.trans hl.symm)
    have h1 := (l.ent u hu).neg
    have h2 := (l.lev k hk).pos
    rw [e, ei] at hp
    have := Int.mul_neg_of_neg_of_pos h1 h2
    omega
  · have h0 := (l.ent u hu).first (b k i) (by omega)
    have hT : 0 < Tk M A (b k) i (q k) := by
      by_cases h : 0 < Tk M A (b k) i (q k)
      · exact h
      · have := Int.mul_nonpos_of_nonneg_of_nonpos h0 (show Tk M A (b k) i (q k) ≤ 0 by omega)
        omega
    have z : Tk M A (b k) i N = 0 := by
      rw [← tk.xv_bas hi]
      exact (l.xz0 k (by omega)).mpr ((l.xz0 u (by omega)).mp (xv_non nu))
    have h3 := ((l.lev k hk).least i hi hT).2 (by rw [z, l.flat hk]; omega)
    omega
end
section
variable (M N : Nat) (A : Nat → Vec) (c : Nat → Int)
/-- whether row k bounds more than row f -/
def moreB (β : Nat → Nat) (q k f : Nat) : Bool :=
  if Tk M A β k N * Tk M A β f q = Tk M A β f N * Tk M A β k q then decide (β k < β f) else decide (Tk M A β k N * Tk M A β f q < Tk M A β f N * Tk M A β k q)
def mo (β : Nat → Nat) (q k : Nat) : Option Nat → Bool
  | none => true
  | some f => moreB M N A β q k f
def lvS (β : Nat → Nat) (q : Nat) : Nat → Option Nat
  | 0 => none
  | k + 1 => if 0 < Tk M A β k q ∧ mo M N A β q k (lvS β q k) = true then some k else lvS β q k
def stepF (β : Nat → Nat) : Nat → Nat := match (List.range N).find? fun j => decide (bl M A c β j < 0) with
  | none => β
  | some q => match lvS M N A β q M with
    | none => β
    | some r => nx β r q
end
section
variable {M N : Nat} {A : Nat → Vec} {c : Nat → Int} {β : Nat → Nat}
theorem frac_eq {a b c x y z : Int} (hx : 0 < x) (hy : 0 < y) (hz : 0 < z) (h1 : a * y ≤ b * x) (h2 : b * z ≤ c * y) (e : a * z = c * x) : a * y = b * x := by
  have e1 : a * y * z ≤ b * x * z := Int.mul_le_mul_of_nonneg_right h1 (by omega)
  have e2 : b * z * x ≤ c * y * x := Int.mul_le_mul_of_nonneg_right h2 (by omega)
  have e4 : c * y * x = a * y * z := by
    rw [show c * y * x = c * x * y by grind, ← e]
    grind
  have e5 : b * z * x = b * x * z := by grind
  rw [e4, e5] at e2
  have e3 : a * y * z = b * x * z := by omega
  exact Int.eq_of_mul_eq_mul_right (by omega) e3
theorem lvS_none {q : Nat} : ∀ k, lvS M N A β q k = none → ∀ i, i < k → Tk M A β i q ≤ 0
  | 0, _, i, h => by omega
  | k + 1, h, i, hi => by
    unfold lvS at h
    split at h
    · cases h
    · rename_i hn
      have ih := lvS_none k h
      by_cases e : i = k
      · subst e
        rw [h] at hn
        by_cases h2 : 0 < Tk M A β i q
        · exact absurd ⟨h2, rfl⟩ hn
        · omega
      · exact ih i (by omega)
theorem lvS_some {q : Nat} : ∀ k r, lvS M N A β q k = some r → r < k ∧ 0 < Tk M A β r q ∧ ∀ i, i < k → 0 < Tk M A β i q → Tk M A β r N * Tk M A β i q ≤ Tk M A β i N * Tk M A β r q ∧ (Tk M A β r N * Tk M A β i q = Tk M A β i N * Tk M A β r q → β r ≤ β i)
  | 0, _, h => by cases h
  | k + 1, r, h => by
    unfold lvS at h
    split at h
    · rename_i hp
      obtain ⟨hp, hm⟩ := hp
      cases h
      refine ⟨by omega, hp, fun i hi hpi => ?_⟩
      by_cases e : i = k
      · subst e
        exact ⟨by rw [Int.mul_comm]; omega, fun _ => Nat.le_refl _⟩
      · cases hf : lvS M N A β q k with
        | none => exact absurd hpi (by have := lvS_none k hf i (by omega); omega)
        | some f =>
          rw [hf] at hm
          obtain ⟨f1, f2, f3⟩ := lvS_some k f hf
          obtain ⟨g1, g2⟩ := f3 i (by omega) hpi
          have hm : moreB M N A β q k f = true := hm
          unfold moreB at hm
          split at hm
          · rename_i he
            have hb := of_decide_eq_true hm
            refine ⟨frac_tr hp f2 hpi (by omega) g1, fun e2 => ?_⟩
            have h3 : Tk M A β f N * Tk M A β i q = Tk M A β i N * Tk M A β f q := by
              have l1 : Tk M A β f N * Tk M A β k q ≤ Tk M A β k N * Tk M A β f q := by omega
              have := frac_tr (a := Tk M A β i N) (x := Tk M A β i q) (b := Tk M A β k N) (y := Tk M A β k q) (c := Tk M A β f N) (z := Tk M A β f q) hpi hp f2 (by omega) (by omega)
              omega
            have := g2 h3
            omega
          · rename_i he
            have hb := of_decide_eq_true hm
            refine ⟨frac_tr hp f2 hpi (by omega) g1, fun e2 => ?_⟩
            have := frac_eq hp f2 hpi (by omega) g1 e2
            omega
    · rename_i hn
      obtain ⟨h1, h2, h3⟩ := lvS_some k r h
      refine ⟨by omega, h2, fun i hi hpi => ?_⟩
      by_cases e : i = k
      · subst e
        have hm : moreB M N A β q i r = false := by
          rw [h] at hn
          cases hb : moreB M N A β q i r with
          | false => rfl
          | true => exact absurd ⟨hpi, hb⟩ hn
        unfold moreB at hm
        split at hm
        · rename_i he
          have hb := of_decide_eq_false hm
          exact ⟨by omega, fun _ => by omega⟩
        · rename_i he
          have hb := of_decide_eq_false hm
          exact ⟨by omega, fun e2 => absurd e2.symm he⟩
      · exact h3 i (by omega) hpi
theorem lvS_lev {q r : Nat} (h : lvS M N A β q M = some r) : Lev M N A β q r := by
  obtain ⟨h1, h2, h3⟩ := lvS_some M r h
  exact ⟨h1, h2, h3⟩
theorem find_ent {q : Nat} (h : (List.range N).find? (fun j => decide (bl M A c β j < 0)) = some q) : Ent M N A c β q := by
  rw [List.find?_range_eq_some] at h
  obtain ⟨h1, h2, h3⟩ := h
  refine ⟨List.mem_range.mp h2, of_decide_eq_true h1, fun j hj => ?_⟩
  have := h3 j hj
  simp at this
  exact this
theorem ent_find {q : Nat} (e : Ent M N A c β q) : (List.range N).find? (fun j => decide (bl M A c β j < 0)) = some q := by
  rw [List.find?_range_eq_some]
  refine ⟨decide_eq_true e.neg, List.mem_range.mpr e.lt, fun j hj => ?_⟩
  have := e.first j hj
  simp
  exact this
/-- so many steps are left -/
inductive Left (M N : Nat) (A : Nat → Vec) (c : Nat → Int) : (Nat → Nat) → Nat → Prop
  | done {β : Nat → Nat} : (∀ j, j < N → 0 ≤ bl M A c β j) → Left M N A c β 0
  | step {β : Nat → Nat} {q r n : Nat} : Ent M N A c β q → lvS M N A β q M = some r → Left M N A c (nx β r q) n → Left M N A c β (n + 1)
def itF (M N : Nat) (A : Nat → Vec) (c : Nat → Int) (β : Nat → Nat) : Nat → (Nat → Nat)
  | 0 => β
  | k + 1 => stepF M N A c (itF M N A c β k)
def code (N : Nat) (β : Nat → Nat) : Nat → Nat
  | 0 => 0
  | k + 1 => code N β k * N + β k
theorem code_lt : ∀ k, (∀ i, i < k → β i < N) → code N β k < N ^ k
  | 0, _ => by simp [code]
  | k + 1, h => by
    have h1 := code_lt k fun i hi => h i (by omega)
    have h2 := h k (by omega)
    have h3 : (code N β k + 1) * N ≤ N ^ k * N := Nat.mul_le_mul_right _ h1
    rw [Nat.add_mul, Nat.one_mul] at h3
    show code N β k * N + β k < N ^ k * N
    omega
theorem code_inj {γ : Nat → Nat} : ∀ k, (∀ i, i < k → β i < N) → (∀ i, i < k → γ i < N) → code N β k = code N γ k → ∀ i, i < k → β i = γ i
  | 0, _, _, _, i, h => by omega
  | k + 1, hb, hg, e, i, hi => by
    have e : code N β k * N + β k = code N γ k * N + γ k := e
    have h1 := hb k (by omega)
    have h2 := hg k (by omega)
    have e1 : β k = γ k := by
      have := congrArg (· % N) e
      simp only [Nat.mul_add_mod_self_right] at this
      rwa [Nat.mod_eq_of_lt h1, Nat.mod_eq_of_lt h2] at this
    have e2 : code N β k = code N γ k := by
      rw [e1] at e
      exact Nat.eq_of_mul_eq_mul_right (show 0 < N by omega) (by omega)
    by_cases h : i = k
    · rw [h]; exact e1
    · exact code_inj k (fun j hj => hb j (by omega)) (fun j hj => hg j (by omega)) e2 i (by omega)
theorem nodup_leN : ∀ {l m : List Nat}, l.Nodup → (∀ z ∈ l, z ∈ m) → l.length ≤ m.length
  | [], _, _, _ => Nat.zero_le _
  | a :: l, m, hn, h => by
    rw [List.nodup_cons] at hn
    have hm := h a List.mem_cons_self
    have h1 := nodup_leN hn.2 (m := m.erase a) fun z hz => (List.mem_erase_of_ne fun (e : z = a) => hn.1 (e ▸ hz)).mpr (h z (List.mem_cons_of_mem _ hz))
    rw [List.length_erase_of_mem hm] at h1
    have := List.length_pos_of_mem hm
    rw [List.length_cons]
    omega
theorem pigeon {B : Nat} {f : Nat → Nat} (h : ∀ k, f k < B) : ∃ i j, i < j ∧ f i = f j := by
  refine Classical.byContradiction fun hn => ?_
  have nd : ((List.range (B + 1)).map f).Nodup := by
    unfold List.Nodup
    rw [List.pairwise_map]
    exact List.pairwise_lt_range.imp fun {a b} hab e => hn ⟨a, b, hab, e⟩
  have := nodup_leN (m := List.range B) nd fun z hz => by
    obtain ⟨k, _, rfl⟩ := List.mem_map.mp hz
    exact List.mem_range.mpr (h k)
  rw [List.length_map, List.length_range, List.length_range] at this
  omega
theorem Tab.lv (t : Tab M N A β) (hA : ∀ j x, 0 ≤ A j x) (hC : ∀ j, j < N → ∃ x, x < M ∧ 0 < A j x) {q : Nat} (hq : q < N) : ∃ r, lvS M N A β q M = some r := by
  cases h : lvS M N A β q M with
  | some r => exact ⟨r, rfl⟩
  | none =>
    obtain ⟨k, hk, hp⟩ := t.bound hA hC hq
    have := lvS_none M h k hk
    omega
theorem Tab.ends (t : Tab M N A β) (hA : ∀ j x, 0 ≤ A j x) (hC : ∀ j, j < N → ∃ x, x < M ∧ 0 < A j x) : ∃ n, Left M N A c β n := by
  refine Classical.byContradiction fun hn => ?_
  -- always a column, always a row
  have one : ∀ γ, Tab M N A γ → (¬ ∃ n, Left M N A c γ n) → ∃ q r, Ent M N A c γ q ∧ lvS M N A γ q M = some r ∧ stepF M N A c γ = nx γ r q ∧ ¬ ∃ n, Left M N A c (nx γ r q) n := by
    intro γ tg hg
    cases hf : (List.range N).find? fun j => decide (bl M A c γ j < 0) with
    | none =>
      refine absurd ⟨0, .done fun j hj => ?_⟩ hg
      have := List.find?_eq_none.mp hf j (List.mem_range.mpr hj)
      simp at this
      exact this
    | some q =>
      have e := find_ent hf
      obtain ⟨r, hr⟩ := tg.lv hA hC e.lt
      refine ⟨q, r, e, hr, ?_, fun ⟨n, hl⟩ => hg ⟨n + 1, .step e hr hl⟩⟩
      unfold stepF
      rw [hf]
      dsimp only
      rw [hr]
  have all : ∀ k, Tab M N A (itF M N A c β k) ∧ (¬ ∃ n, Left M N A c (itF M N A c β k) n) := by
    intro k
    induction k with
    | zero => exact ⟨t, hn⟩
    | succ k ih =>
      obtain ⟨q, r, e, hr, es, hl⟩ := one _ ih.1 ih.2
      show Tab M N A (stepF M N A c _) ∧ ¬ ∃ n, Left M N A c (stepF M N A c _) n
      rw [es]
      exact ⟨ih.1.next e.lt (lvS_lev hr), hl⟩
  have ex : ∀ k, ∃ q r, Ent M N A c (itF M N A c β k) q ∧ lvS M N A (itF M N A c β k) q M = some r ∧ itF M N A c β (k + 1) = nx (itF M N A c β k) r q := fun k => by
    obtain ⟨q, r, e, hr, es, _⟩ := one _ (all k).1 (all k).2
    exact ⟨q, r, e, hr, es⟩
  have out : ∀ k x, M ≤ x → itF M N A c β k x = β x := by
    intro k x hx
    induction k with
    | zero => rfl
    | succ k ih =>
      obtain ⟨q, r, e, hr, es⟩ := ex k
      have := (lvS_lev hr).lt
      rw [es, ← ih]
      exact if_neg (by omega)
  obtain ⟨i, j, hij, he⟩ := pigeon (B := N ^ M) (f := fun k => code N (itF M N A c β k) M) fun k => code_lt M (all k).1.bas
  have same : itF M N A c β i = itF M N A c β j := by
    funext x
    by_cases hx : x < M
    · exact code_inj M (all i).1.bas (all j).1.bas he x hx
    · rw [out i x (by omega), out j x (by omega)]
  have h := fun k => Classical.choose_spec (Classical.choose_spec (ex k))
  exact Loop.no (M := M) (N := N) (A := A) (c := c) (L := j - i) (b := fun k => itF M N A c β (i + k)) (q := fun k => Classical.choose (ex (i + k))) (r := fun k => Classical.choose (Classical.choose_spec (ex (i + k))))
    ⟨by omega, (all i).1, fun k _ => (h (i + k)).1, fun k _ => lvS_lev (h (i + k)).2.1, fun k _ => (h (i + k)).2.2, by
      show itF M N A c β (i + (j - i)) = itF M N A c β (i + 0)
      rw [show i + (j - i) = j by omega]
      exact same.symm⟩
end
def acol (P : Nat) (Ss : List (List Int)) (j : Nat) : Vec := fun x => if j < P then (if (j : Int) ∈ Ss.getD x [] then 1 else 0) else if j < P + Ss.length then (if x = j - P then 1 else 0) else 1
def cwant (P : Nat) (ws : List Int) (j : Nat) : Int := if j < P then ws.getD j 0 else 0
theorem acol_un {P : Nat} {Ss : List (List Int)} {k : Nat} (hk : k < Ss.length) : acol P Ss (P + k) = un k := by
  funext x
  unfold acol un
  rw [if_neg (by omega), if_pos (by omega), show P + k - P = k by omega]
theorem acol_one {P : Nat} {Ss : List (List Int)} {x : Nat} : acol P Ss (P + Ss.length) x = 1 := by
  unfold acol
  rw [if_neg (by omega), if_neg (by omega)]
theorem acol_01 {P : Nat} {Ss : List (List Int)} (j x : Nat) : acol P Ss j x = 0 ∨ acol P Ss j x = 1 := by
  unfold acol
  split
  · split
    · exact .inr rfl
    · exact .inl rfl
  · split
    · split
      · exact .inr rfl
      · exact .inl rfl
    · exact .inr rfl
theorem det_put_un {M k : Nat} {v : Vec} (hk : k < M) : det M (put un k v) = v k := by
  have e : det M (put un k v) = det M (put un k fun x => sm M fun j => v j * un j x) := det_congr fun i hi x hx => by
    rw [put_at, put_at]
    split
    · show v x = sm M fun j => v j * un j x
      rw [sm_one (k := x) hx fun j hj h => ?_]
      · unfold un; rw [if_pos rfl]; omega
      · unfold un; rw [if_neg (Ne.symm h), Int.mul_zero]
    · rfl
  rw [e, det_sm hk, sm_one (k := k) hk fun j hj h => ?_, put_id, det_un, Int.mul_one]
  rw [det_same hk hj (Ne.symm h) fun x hx => ?_, Int.mul_zero]
  rw [put_self, put_ne h]
section
variable {P : Nat} {Ss : List (List Int)} {ws : List Int}
abbrev b0 (P : Nat) : Nat → Nat := fun k => P + k
theorem cols0 {k : Nat} {v : Vec} : det Ss.length (put (fun i => acol P Ss (b0 P i)) k v) = det Ss.length (put un k v) := det_congr fun i hi x hx => by
  rw [put_at, put_at]
  split
  · rfl
  · show acol P Ss (P + i) x = un i x
    rw [acol_un hi]
theorem d0 : dB Ss.length (acol P Ss) (b0 P) = 1 := by
  unfold dB
  rw [← det_un Ss.length]
  exact det_congr fun i hi x hx => by rw [show acol P Ss (b0 P i) = acol P Ss (P + i) from rfl, acol_un hi]
theorem T0 {k j : Nat} (hk : k < Ss.length) : Tk Ss.length (acol P Ss) (b0 P) k j = acol P Ss j k := by
  unfold Tk
  rw [cols0, det_put_un hk]
theorem bl0 {j : Nat} : bl Ss.length (acol P Ss) (cwant P ws) (b0 P) j = - cwant P ws j := by
  unfold bl
  rw [d0, sm_zero fun k hk => ?_]
  · omega
  · unfold cwant
    rw [if_neg (by show ¬ P + k < P; omega), Int.zero_mul]
theorem tab0 : Tab Ss.length (P + Ss.length) (acol P Ss) (b0 P) := by
  refine ⟨by rw [d0]; decide, fun k hk => by show P + k < _; omega, fun j hj x hx => ?_, fun k hk => ?_⟩
  · rw [d0, Int.one_mul, sm_one (k := x) hx fun i hi h => ?_]
    · rw [T0 hx, show acol P Ss (b0 P x) = acol P Ss (P + x) from rfl, acol_un hx]
      unfold un
      rw [if_pos rfl, Int.mul_one]
    · rw [show acol P Ss (b0 P i) = acol P Ss (P + i) from rfl, acol_un hi]
      unfold un
      rw [if_neg (Ne.symm h), Int.mul_zero]
  · rw [T0 hk, acol_one]
    decide
theorem acol_nn (j x : Nat) : 0 ≤ acol P Ss j x := by
  rcases acol_01 (P := P) (Ss := Ss) j x with h | h <;> rw [h] <;> decide
theorem acol_hit (hc : ∀ j : Nat, j < P → ∃ x, x < Ss.length ∧ (j : Int) ∈ Ss.getD x []) {j : Nat} (hj : j < P + Ss.length) : ∃ x, x < Ss.length ∧ 0 < acol P Ss j x := by
  by_cases h : j < P
  · obtain ⟨x, hx, hm⟩ := hc j h
    refine ⟨x, hx, ?_⟩
    unfold acol
    rw [if_pos h, if_pos hm]
    decide
  · refine ⟨j - P, by omega, ?_⟩
    unfold acol
    rw [if_neg h, if_pos hj, if_pos rfl]
    decide
variable {β : Nat → Nat}
/-- what a set leaves of the common number -/
theorem Tab.fill (t : Tab Ss.length (P + Ss.length) (acol P Ss) β) {x : Nat} (hx : x < Ss.length) : sm P (fun p => acol P Ss p x * xv Ss.length (P + Ss.length) (acol P Ss) β p) + xv Ss.length (P + Ss.length) (acol P Ss) β (P + x) = dB Ss.length (acol P Ss) β := by
  have h := t.span (P + Ss.length) (Nat.le_refl _) x hx
  rw [acol_one, Int.mul_one] at h
  have e : sm Ss.length (fun k => Tk Ss.length (acol P Ss) β k (P + Ss.length) * acol P Ss (β k) x) = sm (P + Ss.length) fun v => acol P Ss v x * xv Ss.length (P + Ss.length) (acol P Ss) β v := by
    unfold xv
    have e2 : ∀ v, acol P Ss v x * sm Ss.length (fun k => if β k = v then Tk Ss.length (acol P Ss) β k (P + Ss.length) else 0) = sm Ss.length fun k => acol P Ss v x * if β k = v then Tk Ss.length (acol P Ss) β k (P + Ss.length) else 0 := fun v => sm_mul.symm
    rw [sm_congr (f := fun v => acol P Ss v x * sm Ss.length (fun k => if β k = v then Tk Ss.length (acol P Ss) β k (P + Ss.length) else 0)) fun v _ => e2 v, ← sm_swap]
    refine sm_congr fun k hk => ?_
    rw [sm_one (k := β k) (t.bas k hk) fun v hv h => ?_, if_pos rfl, Int.mul_comm]
    rw [if_neg (Ne.symm h), Int.mul_zero]
  rw [h, e]
  have split : ∀ m, sm (P + m) (fun v => acol P Ss v x * xv Ss.length (P + Ss.length) (acol P Ss) β v) = sm P (fun p => acol P Ss p x * xv Ss.length (P + Ss.length) (acol P Ss) β p) + sm m fun i => acol P Ss (P + i) x * xv Ss.length (P + Ss.length) (acol P Ss) β (P + i) := by
    intro m
    induction m with
    | zero => show sm P _ = sm P _ + 0; rw [Int.add_zero]
    | succ m ih =>
      show sm (P + m) _ + _ = _ + (sm m _ + _)
      rw [ih, Int.add_assoc]
      rfl
  rw [split, sm_one (k := x) (n := Ss.length) hx fun i hi h => ?_]
  · rw [acol_un hx]
    unfold un
    rw [if_pos rfl, Int.one_mul]
  · rw [acol_un hi]
    unfold un
    rw [if_neg (Ne.symm h), Int.zero_mul]
theorem xv_nonneg (t : Tab Ss.length (P + Ss.length) (acol P Ss) β) (v : Nat) : 0 ≤ xv Ss.length (P + Ss.length) (acol P Ss) β v := sm_nonneg fun k hk => by
  split
  · exact t.feas k hk
  · decide
/-- the worth below the line -/
theorem Tab.worth (t : Tab Ss.length (P + Ss.length) (acol P Ss) β) : bl Ss.length (acol P Ss) (cwant P ws) β (P + Ss.length) = sm P fun p => ws.getD p 0 * xv Ss.length (P + Ss.length) (acol P Ss) β p := by
  unfold bl
  have c0 : cwant P ws (P + Ss.length) = 0 := if_neg (by omega)
  rw [c0, Int.mul_zero, Int.sub_zero]
  unfold xv
  have e2 : ∀ p, ws.getD p 0 * sm Ss.length (fun k => if β k = p then Tk Ss.length (acol P Ss) β k (P + Ss.length) else 0) = sm Ss.length fun k => ws.getD p 0 * if β k = p then Tk Ss.length (acol P Ss) β k (P + Ss.length) else 0 := fun v => sm_mul.symm
  rw [sm_congr (f := fun p => ws.getD p 0 * sm Ss.length (fun k => if β k = p then Tk Ss.length (acol P Ss) β k (P + Ss.length) else 0)) fun v _ => e2 v, ← sm_swap]
  refine sm_congr fun k hk => ?_
  unfold cwant
  split
  · rename_i h
    rw [sm_one (k := β k) h fun v hv h => ?_, if_pos rfl]
    rw [if_neg (Ne.symm h), Int.mul_zero]
  · rename_i h
    rw [Int.zero_mul, sm_zero fun v hv => ?_]
    rw [if_neg (by omega), Int.mul_zero]
/-- linear in the columns -/
theorem Tk_cols {k j : Nat} (hk : k < Ss.length) : Tk Ss.length (acol P Ss) β k j = sm Ss.length fun x => acol P Ss j x * Tk Ss.length (acol P Ss) β k (P + x) := by
  unfold Tk
  have e : det Ss.length (put (fun i => acol P Ss (β i)) k (acol P Ss j)) = det Ss.length (put (fun i => acol P Ss (β i)) k fun y => sm Ss.length fun x => acol P Ss j x * acol P Ss (P + x) y) := det_congr fun i hi y hy => by
    rw [put_at, put_at]
    split
    · show acol P Ss j y = sm Ss.length fun x => acol P Ss j x * acol P Ss (P + x) y
      rw [sm_one (k := y) hy fun x hx h => ?_, acol_un hy]
      · unfold un; rw [if_pos rfl]; omega
      · rw [acol_un hx]; unfold un; rw [if_neg (Ne.symm h), Int.mul_zero]
    · rfl
  rw [e, det_sm (v := fun x => acol P Ss (P + x)) hk]
theorem bl_cols {j : Nat} : bl Ss.length (acol P Ss) (cwant P ws) β j + dB Ss.length (acol P Ss) β * cwant P ws j = sm Ss.length fun x => acol P Ss j x * bl Ss.length (acol P Ss) (cwant P ws) β (P + x) := by
  have e : ∀ x, acol P Ss j x * bl Ss.length (acol P Ss) (cwant P ws) β (P + x) = sm Ss.length fun k => acol P Ss j x * (cwant P ws (β k) * Tk Ss.length (acol P Ss) β k (P + x)) := fun x => by
    unfold bl
    have c0 : cwant P ws (P + x) = 0 := if_neg (by omega)
    rw [c0, Int.mul_zero, Int.sub_zero, sm_mul]
  rw [sm_congr fun x _ => e x, ← sm_swap]
  unfold bl
  have e2 : sm Ss.length (fun k => cwant P ws (β k) * Tk Ss.length (acol P Ss) β k j) = sm Ss.length fun k => sm Ss.length fun x => acol P Ss j x * (cwant P ws (β k) * Tk Ss.length (acol P Ss) β k (P + x)) := sm_congr fun k hk => by
    rw [Tk_cols hk, ← sm_mul]
    exact sm_congr fun x hx => by grind
  rw [e2]
  omega
theorem bl_sum : bl Ss.length (acol P Ss) (cwant P ws) β (P + Ss.length) = sm Ss.length fun x => bl Ss.length (acol P Ss) (cwant P ws) β (P + x) := by
  have h := bl_cols (P := P) (Ss := Ss) (ws := ws) (β := β) (j := P + Ss.length)
  have c0 : cwant P ws (P + Ss.length) = 0 := if_neg (by omega)
  rw [c0, Int.mul_zero, Int.add_zero] at h
  rw [h]
  exact sm_congr fun x hx => by rw [acol_one, Int.one_mul]
theorem bl_place {p : Nat} (hp : p < P) : bl Ss.length (acol P Ss) (cwant P ws) β p + dB Ss.length (acol P Ss) β * ws.getD p 0 = sm Ss.length fun x => acol P Ss p x * bl Ss.length (acol P Ss) (cwant P ws) β (P + x) := by
  have h := bl_cols (P := P) (Ss := Ss) (ws := ws) (β := β) (j := p)
  have c0 : cwant P ws p = ws.getD p 0 := if_pos hp
  rwa [c0] at h
end
def cnt : Nat → (Nat → Bool) → Nat
  | 0, _ => 0
  | n + 1, f => cnt n f + if f n = true then 1 else 0
def skip (f : Nat → Bool) (i : Nat) : Nat → Bool := fun k => if k < i then f k else f (k + 1)
theorem cnt_congr {n : Nat} {f g : Nat → Bool} (h : ∀ i, i < n → f i = g i) : cnt n f = cnt n g := by
  induction n with
  | zero => rfl
  | succ n ih => unfold cnt; rw [ih fun i hi => h i (by omega), h n (by omega)]
theorem cnt_skip {f : Nat → Bool} {i : Nat} : ∀ n, i ≤ n → cnt n (skip f i) + (if f i = true then 1 else 0) = cnt (n + 1) f
  | 0, h => by
    obtain rfl : i = 0 := by omega
    show 0 + _ = 0 + _
    rfl
  | n + 1, h => by
    by_cases e : i = n + 1
    · subst e
      show cnt (n + 1) (skip f (n + 1)) + _ = cnt (n + 1) f + _
      rw [cnt_congr (f := skip f (n + 1)) (g := f) fun k hk => if_pos hk]
    · have ih := cnt_skip (f := f) (i := i) n (by omega)
      show cnt n (skip f i) + (if skip f i n = true then 1 else 0) + _ = cnt (n + 1) f + if f (n + 1) = true then 1 else 0
      have : skip f i n = f (n + 1) := if_neg (by omega)
      rw [this]
      omega
def fac : Nat → Nat
  | 0 => 1
  | n + 1 => (n + 1) * fac n
theorem sm_abs {n : Nat} {f : Nat → Int} : (sm n f).natAbs ≤ (sm n fun i => (f i).natAbs).toNat := by
  induction n with
  | zero => exact Nat.zero_le _
  | succ n ih =>
    have h2 : 0 ≤ sm n fun i => ((f i).natAbs : Int) := sm_nonneg fun i hi => by omega
    show (sm n f + f n).natAbs ≤ (sm n (fun i => ((f i).natAbs : Int)) + ((f n).natAbs : Int)).toNat
    omega
theorem sm_cnt {n : Nat} {f : Nat → Bool} {m : Int} : sm n (fun i => if f i = true then m else 0) = cnt n f * m := by
  induction n with
  | zero => show (0 : Int) = ((0 : Nat) : Int) * m; simp
  | succ n ih =>
    unfold sm cnt
    rw [ih]
    show _ + (if f n = true then m else 0) = _
    by_cases h : f n = true
    · rw [if_pos h, if_pos h]; grind
    · rw [if_neg h, if_neg h]; simp
theorem det_small : ∀ {M : Nat} {f : Nat → Vec} {mk : Nat → Bool}, (∀ i, i < M → (mk i = true ∧ ∀ x, x < M → f i x = 0 ∨ f i x = 1) ∨ (mk i = false ∧ ∃ k, ∀ x, x < M → f i x = un k x)) → (det M f).natAbs ≤ fac (cnt M mk)
  | 0, _, _, _ => Nat.le_refl 1
  | M + 1, f, mk, h => by
    have sgA : ∀ i, (sg i).natAbs = 1 := fun i => by unfold sg; split <;> rfl
    have cutH : ∀ i, i < M + 1 → ∀ k, k < M → (skip mk i k = true ∧ ∀ x, x < M → cut f i k x = 0 ∨ cut f i k x = 1) ∨ (skip mk i k = false ∧ ∃ l, ∀ x, x < M → cut f i k x = un l x) := by
      intro i hi k hk
      have step : ∀ j, j < M + 1 → (mk j = true ∧ ∀ x, x < M → f j (x + 1) = 0 ∨ f j (x + 1) = 1) ∨ (mk j = false ∧ ∃ l, ∀ x, x < M → f j (x + 1) = un l x) := by
        intro j hj
        rcases h j hj with ⟨h1, h2⟩ | ⟨h1, l, h2⟩
        · exact .inl ⟨h1, fun x hx => h2 (x + 1) (by omega)⟩
        · refine .inr ⟨h1, if l = 0 then M else l - 1, fun x hx => ?_⟩
          rw [h2 (x + 1) (by omega)]
          unfold un
          by_cases e : l = 0
          · rw [if_pos e, if_neg (by omega), if_neg (by omega)]
          · rw [if_neg e]
            by_cases e2 : x + 1 = l
            · rw [if_pos e2, if_pos (by omega)]
            · rw [if_neg e2, if_neg (by omega)]
      unfold skip
      simp only [cut_at]
      by_cases hlt : k < i
      · simp only [if_pos hlt]
        exact step k (by omega)
      · simp only [if_neg hlt]
        exact step (k + 1) (by omega)
    have each : ∀ i, i < M + 1 → (det M (cut f i)).natAbs ≤ fac (cnt M (skip mk i)) := fun i hi => det_small (cutH i hi)
    by_cases hA : ∃ i, i < M + 1 ∧ mk i = false ∧ f i 0 ≠ 0
    · obtain ⟨i, hi, hm, hf⟩ := hA
      have hu : ∀ x, x < M + 1 → f i x = un 0 x := by
        rcases h i hi with ⟨h1, _⟩ | ⟨_, l, h2⟩
        · rw [hm] at h1; cases h1
        · have : l = 0 := by
            have := h2 0 (by omega)
            rw [this] at hf
            unfold un at hf
            by_cases e : (0 : Nat) = l
            · omega
            · rw [if_neg e] at hf; exact absurd rfl hf
          rw [this] at h2
          exact h2
      unfold det
      rw [sm_one (k := i) hi fun j hj hji => ?_]
      · rw [hu 0 (by omega), Int.natAbs_mul, Int.natAbs_mul, sgA]
        have e := cnt_skip (f := mk) (i := i) M (by omega)
        rw [hm] at e
        have := each i hi
        rw [show cnt (M + 1) mk = cnt M (skip mk i) by simpa using e.symm]
        simpa [un] using this
      · have z : det M (cut f j) = 0 := by
          by_cases hlt : i < j
          · refine det_zero (k := i) (by omega) fun x hx => ?_
            rw [cut_at, if_pos hlt, hu (x + 1) (by omega)]
            exact if_neg (by omega)
          · refine det_zero (k := i - 1) (by omega) fun x hx => ?_
            rw [cut_at, if_neg (by omega), show i - 1 + 1 = i by omega, hu (x + 1) (by omega)]
            exact if_neg (by omega)
        rw [z, Int.mul_zero]
    · have zero : ∀ i, i < M + 1 → mk i = false → f i 0 = 0 := fun i hi hm => by
        by_cases e : f i 0 = 0
        · exact e
        · exact absurd ⟨i, hi, hm, e⟩ hA
      unfold det
      refine Nat.le_trans sm_abs ?_
      have hle : sm (M + 1) (fun i => ((sg i * f i 0 * det M (cut f i)).natAbs : Int)) ≤ sm (M + 1) fun i => if mk i = true then ((fac (cnt (M + 1) mk - 1) : Nat) : Int) else 0 := by
        refine sm_le fun i hi => ?_
        cases hm : mk i with
        | false => rw [zero i hi hm]; simp
        | true =>
          rw [if_pos rfl, Int.natAbs_mul, Int.natAbs_mul, sgA]
          have e := cnt_skip (f := mk) (i := i) M (by omega)
          rw [hm, if_pos rfl] at e
          have h1 := each i hi
          rw [show cnt (M + 1) mk - 1 = cnt M (skip mk i) by omega]
          rcases h i hi with ⟨_, h2⟩ | ⟨h2, _⟩
          · rcases h2 0 (by omega) with h3 | h3
            · rw [h3]; simp
            · rw [h3]; simpa using h1
          · rw [hm] at h2; cases h2
      rw [sm_cnt] at hle
      have hp : cnt (M + 1) mk * fac (cnt (M + 1) mk - 1) ≤ fac (cnt (M + 1) mk) := by
        cases cnt (M + 1) mk with
        | zero => simp
        | succ c => show (c + 1) * fac (c + 1 - 1) ≤ (c + 1) * fac c; rw [show c + 1 - 1 = c by omega]; exact Nat.le_refl _
      have : ((cnt (M + 1) mk : Nat) : Int) * ((fac (cnt (M + 1) mk - 1) : Nat) : Int) = ((cnt (M + 1) mk * fac (cnt (M + 1) mk - 1) : Nat) : Int) := by simp
      omega
end LP
namespace Hs
open PySem PySem.Spec PyProof.Rows L2
def liftW (X : Cx) (L : Lv) (fg : FG) : TG := fun v σ H Q => ∃ Z Y s d Qf, Rel X.K Z Y H σ s ∧ L.keeps σ ∧ Rp X.K Z v d ∧ fg d s Qf ∧ ∀ σ' H' s', L.keeps σ' → Rel X.K Z Y H' σ' s' → Qf s' → Q σ' H'
def liftWs (X : Cx) (L : Lv) (fg : List D → S → (S → Prop) → Prop) : TGs := fun vs σ H Q => ∃ Z Y s ds Qf, Rel X.K Z Y H σ s ∧ L.keeps σ ∧ RpAll X.K Z vs ds ∧ fg ds s Qf ∧ ∀ σ' H' s', L.keeps σ' → Rel X.K Z Y H' σ' s' → Qf s' → Q σ' H'
def PWG (X : Cx) (L : Lv) (e : Expr) (fg : FG) : Prop := PG X e (liftW X L fg)
def PWGs (X : Cx) (L : Lv) (es : List Expr) (fgs : List FG) : Prop := PGs X es (liftWs X L (gTp.gTps fgs))
def gFld (c : Str) (i : Nat) (f : Str) : FG := fun d s k => onOb c i s fun fs => fs.length < 1000 ∧ k (s.set i (.ob c (putP f (.d d) fs)))
def Thru (g : FG) : Prop := ∀ d s k, g d s k → ∃ s', k s'
theorem thru_nm {i : Nat} : Thru (gNm i) := fun d s k h => ⟨_, h⟩
theorem thru_fld {c f : Str} {i : Nat} : Thru (gFld c i f) := fun d s k h => by
  obtain ⟨fs, e, h1, h2⟩ := onOb_ok h
  exact ⟨_, h2⟩
theorem tpT_nil : TpLen [] := fun ds s k h => by
  cases ds with
  | nil => rfl
  | cons _ _ => exact h.elim
theorem tpT_cons {g : FG} {gs : List FG} (h1 : Thru g) (h2 : TpLen gs) : TpLen (g :: gs) := fun ds s k h => by
  cases ds with
  | nil => exact h.elim
  | cons d ds =>
    obtain ⟨s', h'⟩ := h1 d s _ h
    rw [List.length_cons, List.length_cons, h2 ds s' k h']
def tGFld (K : PySem.W.Frag) (to : TE) (f : Str) : TG := fun v σ H Q => to σ H fun x H1 => ∃ a C dx fs, x = .ref a ∧ H1 a = some (.ins C dx fs) ∧ Cls K C ∧ NoAttr K C f ∧ fs.length < 1000 ∧ Q σ (upd H1 a (.ins C dx (putF f v fs)))
section
variable {X : Cx} {L : Lv} {e a b o : Expr} {es : List Expr} {fa : FE} {fr : FA} {pos p px : Pos} {c f y : Str} {to : TE}
theorem pg_fld (ho : PE X o to) : PG X (.Attribute o f pos) (tGFld X.K to f) := by
  refine ⟨fun pins s σ H v u Q I r h => ?_⟩
  rw [assign_Attribute]
  refine wpAny_bind (wpAny_holding (thn (ho.run pins s σ H _ I h) fun ov s1 ⟨x, H1, I1, r1, a, C, dx, fs, ex, ea, c, n, l, q⟩ => ?_))
  subst ex
  obtain rfl : ov = Value.ref a := r1
  refine wpAny_bind (wpAny_standAt (wpAny_bind (wpAny_holding (setattr_ok I1 ea c n l r fun s3 I3 => ?_))))
  exact wpAny_release ⟨σ, _, I3, q⟩
theorem pw_nm {i : Nat} {x : Str} (hN : X.N.Nodup) (hi : X.N[i]? = some x := by rfl) (hx : Loc X.env.scope x := by first | exact Or.inl rfl | exact Or.inr rfl) (hio : i ∉ L.io := by exact of_decide_eq_true rfl) (hf : X.fn x = true ∨ X.env.scope.names.lookup x = some .local := by first | exact .inl rfl | exact .inr rfl) : PWG X L (.Name x pos) (gNm i) :=
  PG_imp (pg_name hN hi hx hf) fun v σ H Q ⟨Z, Y, s, d, Qf, r, k, rp, h, q⟩ => q _ _ _ (L.keeps_set k hio) (Rel.put (r.pushD rp) r.len i) h
theorem pw_fld (i : Nat) (cl : Cls X.K (He.ga X.K c)) (na : NoAttr X.K (He.ga X.K c) f) (ho : PE X (.Name y px) (tVar i)) : PWG X L (.Attribute (.Name y px) f pos) (gFld c i f) :=
  PG_imp (pg_fld ho) fun v σ H Q ⟨Z, Y, s, d, Qf, r, k, rp, h, q⟩ => by
  obtain ⟨fs, e1, hl, h3⟩ := onOb_ok h
  obtain ⟨p, dx, vs, g1, g2, g3, g4⟩ := Rel.putF (f := f) (w := .d d) (r.pushD rp) r.len e1
  refine ⟨.ref p, getD_some g1, p, _, dx, _, rfl, g2, cl, na, ?_, q σ _ _ k g4 h3⟩
  rw [List.length_zip, List.length_map]
  omega
theorem pws_nil : PWGs X L [] [] := PGs_imp pgs_nil fun vs σ H Q ⟨Z, Y, s, ds, Qf, r, k, rp, h, q⟩ => by
  cases rp with
  | nil => exact ⟨rfl, q σ H s k r h⟩
  | cons _ _ => exact h.elim
theorem pws_cons {fg : FG} {fgs : List FG} (h1 : PWG X L e fg) (h2 : PWGs X L es fgs) (hs : (assignEach (e :: es) X.env).map (·.2) = assign e X.env :: (assignEach es X.env).map (·.2) := by rfl) : PWGs X L (e :: es) (fg :: fgs) :=
  PGs_imp (pgs_cons h1 h2 hs) fun vs σ H Q ⟨Z, Y, s, ds, Qf, r, k, rp, h, q⟩ => by
  cases rp with
  | nil => exact h.elim
  | cons rd ra =>
    refine ⟨_, _, rfl, Z, Y, s, _, _, r, k, rd, h, fun σ1 H1 s1 k1 r1 h1 => ?_⟩
    exact ⟨Z, Y, s1, _, Qf, r1, k1, ra, h1, q⟩
theorem pw_tup {x1 : Nat} {fgs : List FG} (hc : X.calm = true) (h : PWGs X L es fgs) (hlen : TpLen fgs) (hn : (assignEach es X.env).length = fgs.length := by rfl) (hst : (assignEach es X.env).findIdx? (·.1) = none := by rfl) : PWG X L (.Tuple es x1 pos) (gTp fgs) :=
  PG_imp (pg_tup hc h hn hst) fun v σ H Q ⟨Z, Y, s, d, Qf, r, k, rp, h, q⟩ => by
  cases rp with
  | tup hs hz ra => exact ⟨_, _, rfl, tupSq (r.zh _ _ hs), (by rw [ra.length]; exact hlen _ _ _ h), Z, Y, s, _, Qf, r, k, ra, h, q⟩
  | _ => exact h.elim
/-- a, o.f, .. = e -/
theorem pfs_unpW {tg : Expr} {fg : FG} (he : PF X L e fa) (hg : PWG X L tg fg) (hs : swapsWithSole [tg] e pos.line X.env = pure false := by rfl) (hw : swappedStores [tg] e X.env = pure none := by rfl)
    (h1 : (assignEach [tg] X.env).map (·.2) = [assign tg X.env] := by rfl) : PFS X L (.Assign [tg] e pos) (fUnp fg fa) := PS_imp (ps_asg he hg hs hw h1) fun D σ H ⟨Z, Y, s, Ef, r, k, h, eo⟩ => by
  refine ⟨Z, Y, s, Ef.xx, _, r, k, eo.xx, h, fun v H1 Z1 r1 s1 hz rx h1 => ?_⟩
  obtain ⟨Z2, d, s2, hz2, rx2, h2⟩ := frz_ok (us := []) (ds := []) (vs := []) (rs := []) rx rfl h1
  exact ⟨Z2, Y, s2, d, _, rx2.rel0, k, rx2.vd, h2, fun σ' H' s' k' r' h' => eo.nx σ' H' Z2 s' (hz.trans hz2) k' r' h'⟩
/-- a, b, c = x, y, z -/
def fPar3 (i j l : Nat) (a : FA) : FS := fun E s => a E.xx s fun rs s2 => frzAll rs s2 fun ds s3 => match ds with
  | [d1, d2, d3] => E.nx (((s3.set i (.d d1)).set j (.d d2)).set l (.d d3))
  | _ => False
def onDs : List R → (List D → Prop) → Prop
  | [], k => k []
  | .d x :: rs, k => onDs rs fun ds => k (x :: ds)
  | _, _ => False
def onOwnL (r : R) (k : List D → Prop) : Prop := match r with
  | .own (.l xs) => k xs
  | _ => False
def fLmT (g : LM) (a : FE) (r : FA) : FE := fun X s Q => a X s fun ro s1 => onOwnL ro fun xs => r X s1 fun rs s2 => onDs rs fun ds => g xs ds fun d _ => Q (.d d) s2
variable {nm : Str} {apos cpos : Pos} {id : String}
end
section
variable {P : Program} {w : World} {K : PySem.W.Frag} {mg : Str → Option Value} {base : Heap} {fa : List He.Fa} {fn : List He.DefD}
theorem dfOkA (T : TxOk fa fn K mg base) {g x : Str} {st : Stmt} {N ps : List Str} {ms : List Bool} {bd : FS} {k : Nat} (i j : Nat) (sco : FnScope N ps (defScope st)) (hnp : ps.length ≤ N.length)
    (hbi : ∀ (kV doc pm : Value) (an : Option Addr) (cdv ct : Value) (us : List Value), us.length = ps.length → bindArgs (PySem.W.fnOf x x (defArgs st) (defBody st) (defScope st) .none kV doc pm an cdv ct) ⟨us, []⟩ = pure (ps.zip us))
    (hb : ∀ (f : Addr) (cdv : Value) (A : Around) (outer : List Env) (s : Shared) (H : Hp) (vs : List V) (E : XK), Room k (A.deeper (envOfC x (defScope st) s.heap.objs.size f cdv)) →
      PFSs (cxOf (L2.CX P w) P w K mg base N x (defScope st) f cdv A outer s H E) ⟨fun cls d _ H => E cls d H, ioOf ms, L2.start N vs⟩ (defBody st) bd)
    (h : fn[i]? = some (dOfA g x st) := by rfl) (hg : fa[j]? = some (.glo g) := by rfl) : Df P w K mg base g (k + 1) ps ms (semOf ps.length N.length bd) := by
  obtain ⟨fd, F⟩ := T.c.def_ i h
  exact ⟨_, fd, okF (funOf F) sco hnp fun cdv A outer s H vs E hr => hb _ cdv A outer s H vs E hr, F.bindsN hbi, T.glo j hg, F.kp⟩
end
def fIsNo (i : Nat) : FE := fun _ s Q => match s.getD i .no with
  | .ob _ _ => Q (.d (.bool false)) s
  | .d x => Q (.d (.bool (isNone x))) s
  | _ => False
section
variable {X : Cx} {L : Lv} {o : Expr} {fa : FE} {pos p px apos : Pos} {c m y : Str} {sem : FSem} {k : Nat} {ps : List Str} {j : Nat}
theorem pft_isNo (i : Nat) (ho : PE X (.Name y px) (tVar i)) (hm : behindInMarks .Is (.Constant .none j p) = false := by rfl) : PFT X L (.Compare (.Name y px) [.Is] [.Constant .none j p] pos) (fB (fIsNo i)) :=
  PT_imp (pt_cmpR op_isN ho pe_non hm) fun σ H Q ⟨Z, Y, s, Xf, Qf, r, k, xo, h, q⟩ => by
  have h : fIsNo i Xf s fun r s1 => isB r fun c => Qf c s1 := h
  unfold fIsNo at h
  generalize hs : s.getD i .no = w at h
  match w, h with
  | .ob c fs, h =>
    obtain ⟨F, sl⟩ := r.slot i
    rw [hs] at sl
    obtain ⟨pa, dx, vs, G, h1, h2, h3, h4, h5⟩ := sl
    refine ⟨.ref pa, getD_some h1, rfl, _, rfl, ?_⟩
    rw [show decide ((V.ref pa) = V.non) = false from by simp]
    exact q _ H Z s (Same.refl _) r h
  | .d x, h =>
    obtain ⟨F, sl⟩ := r.slot i
    rw [hs] at sl
    obtain ⟨_, u, h1, rp⟩ := sl
    refine ⟨u, getD_some h1, rfl, _, rfl, ?_⟩
    rw [rp_none rp]
    exact q _ H Z s (Same.refl _) r h
end
end Hs
namespace Lk51
open PySem PySem.Spec PyProof.Rows L2 Hs
def b__law_e_stir : FS := fSeq (fIfS (fB (fOp cGe (fVar 0) (fC (.int 1000000000000000000)))) (fRet (fVar 0)) (fNext))
    (fSeq (fAsg 2 (fOp opMod (fOp opAdd (fOp opAdd (fOp opMul (fOp opMod (fVar 0) (fC (.int 2147483549))) (fC (.int 31337))) (fOp opMul (fVar 1) (fC (.int 26171)))) (fC (.int 59))) (fC (.int 2147483543))))
    (fSeq (fAsg 3 (fOp opMod (fOp opAdd (fOp opAdd (fOp opAdd (fOp opMul (fVar 2) (fVar 2)) (fOp opMul (fOp opMul (fC (.int 419)) (fVar 1)) (fVar 1))) (fOp opMul (fC (.int 7)) (fVar 2))) (fC (.int 3))) (fC (.int 2147483497))))
    (fSeq (fAsg 4 (fOp opMod (fOp opAdd (fOp opAdd (fOp opAdd (fOp opMul (fVar 3) (fVar 3)) (fOp opMul (fC (.int 877)) (fVar 3))) (fVar 2)) (fVar 1)) (fC (.int 2147483489))))
    (fRet (fOp opAdd (fOp opMul (fVar 3) (fC (.int 2147483489))) (fVar 4))))))
def m__law_e_stir : FSem := semOf 2 5 b__law_e_stir
def b__law_e_dip : FS := fSeq (fIfS (fB (fOp cLt (fOp ixD (fVar 0) (fC (.int 2))) (fVar 1))) (fSeq (fAsg 2 (fOp ixD (fVar 0) (fC (.int 1))))
    (fSeq (fAsg 3 (fOp opAdd (fOp opMul (fC (.int 11)) (fVar 2)) (fC (.int 5))))
    (fSeq (fIfS (fB (fOp cLt (fVar 2) (fBlt bLen (fCons (fOp ixD (fVar 0) (fC (.int 0))) (fNil))))) (fAsg 3 (fOp ixD (fOp ixD (fVar 0) (fC (.int 0))) (fVar 2))) (fIfS (fB (fOp cGt (fBlt bLen (fCons (fOp ixD (fVar 0) (fC (.int 0))) (fNil))) (fC (.int 0)))) (fAsg 3 (fOp opAdd (fOp opMod (fOp ixD (fOp ixD (fVar 0) (fC (.int 0))) (fOp opMod (fOp opAdd (fOp opMul (fC (.int 5)) (fVar 2)) (fC (.int 2))) (fBlt bLen (fCons (fOp ixD (fVar 0) (fC (.int 0))) (fNil))))) (fC (.int 777777769))) (fOp opMul (fVar 2) (fC (.int 5000011))))) (fNext)))
    (fSeq (fSetIx 0 (fC (.int 1)) (fOp opAdd (fVar 2) (fC (.int 1))))
    (fSetIx 0 (fC (.int 2)) (fCall m__law_e_stir [false, false] (fCons (fVar 3) (fCons (fVar 2) (fNil))))))))) (fNext))
    (fSeq (fAsg 4 (fOp opMod (fOp ixD (fVar 0) (fC (.int 2))) (fVar 1)))
    (fSeq (fSetIx 0 (fC (.int 2)) (fOp opFdiv (fOp ixD (fVar 0) (fC (.int 2))) (fVar 1)))
    (fRet (fVar 4))))
def m__law_e_dip : FSem := semOf 2 5 b__law_e_dip
def b__law_e_web_of : FS := fSeq (fAsg 2 (fCall m__law_e_dip [true, false] (fCons (fVar 0) (fCons (fC (.int 7)) (fNil)))))
    (fSeq (fAsg 3 (fLst (fNil)))
    (fSeq (fFor (iRange1 (fCons (fVar 1) (fNil))) (gNm 4) [4, 5] (fFor (iRange2 (fCons (fOp opAdd (fVar 4) (fC (.int 1))) (fCons (fVar 1) (fNil)))) (gNm 5) [5] (fIfS (fB (fOp cLt (fCall m__law_e_dip [true, false] (fCons (fVar 0) (fCons (fC (.int 6)) (fNil)))) (fVar 2))) (fDrop (fLm 3 mAppend (fCons (fTup (fCons (fVar 4) (fCons (fVar 5) (fNil)))) (fNil)))) (fNext))))
    (fRet (fTup (fCons (fVar 1) (fCons (fBlt bTuple (fCons (fVar 3) (fNil))) (fNil)))))))
def m__law_e_web_of : FSem := semOf 2 6 b__law_e_web_of
def b__law_e_web : FS := fSeq (fAsg 2 (fCall m__law_e_dip [true, false] (fCons (fVar 0) (fCons (fOp opAdd (fVar 1) (fC (.int 1))) (fNil)))))
    (fRet (fCall m__law_e_web_of [true, false] (fCons (fVar 0) (fCons (fVar 2) (fNil)))))
def m__law_e_web : FSem := semOf 2 3 b__law_e_web
def b_is_whole : FS := fRet (fAndV (fUn (bIs "int") (fVar 0)) (fNotV (fUn (bIs "bool") (fVar 0))))
def m_is_whole : FSem := semOf 1 1 b_is_whole
def b_is_below : FS := fRet (fAndV (fCall m_is_whole [false] (fCons (fVar 0) (fNil))) (fChain cLe cLt (fC (.int 0)) (fVar 0) (fVar 1)))
def m_is_below : FSem := semOf 2 2 b_is_below
def b_is_rising : FS := fRet (fBlt bAll (fCons (fLc (iRange1 (fCons (fOp opSub (fBlt bLen (fCons (fVar 0) (fNil))) (fC (.int 1))) (fNil))) (gNm 1) [1] (fYes) (fOp cLt (fOp ixD (fVar 0) (fVar 1)) (fOp ixD (fVar 0) (fOp opAdd (fVar 1) (fC (.int 1)))))) (fNil)))
def m_is_rising : FSem := semOf 1 2 b_is_rising
def b_is_tie : FS := fSeq (fIfS (fOr (fNot (fB (fUn (bIs "tuple") (fVar 1)))) (fB (fOp cNe (fBlt bLen (fCons (fVar 1) (fNil))) (fC (.int 2))))) (fRet (fC (.bool false))) (fNext))
    (fRet (fAndV (fCall m_is_below [false, false] (fCons (fOp ixD (fVar 1) (fC (.int 0))) (fCons (fVar 0) (fNil)))) (fAndV (fCall m_is_below [false, false] (fCons (fOp ixD (fVar 1) (fC (.int 1))) (fCons (fVar 0) (fNil)))) (fOp cLt (fOp ixD (fVar 1) (fC (.int 0))) (fOp ixD (fVar 1) (fC (.int 1)))))))
def m_is_tie : FSem := semOf 2 2 b_is_tie
def b_are_ties : FS := fSeq (fIfS (fOr (fNot (fB (fUn (bIs "tuple") (fVar 1)))) (fNot (fB (fBlt bAll (fCons (fLc (iSeq (fVar 1)) (gNm 2) [2] (fYes) (fCall m_is_tie [false, false] (fCons (fVar 0) (fCons (fVar 2) (fNil))))) (fNil)))))) (fRet (fC (.bool false))) (fNext))
    (fRet (fCall m_is_rising [false] (fCons (fVar 1) (fNil))))
def m_are_ties : FSem := semOf 2 3 b_are_ties
def b_is_web : FS := fSeq (fIfS (fOr (fNot (fB (fUn (bIs "tuple") (fVar 0)))) (fB (fOp cNe (fBlt bLen (fCons (fVar 0) (fNil))) (fC (.int 2))))) (fRet (fC (.bool false))) (fNext))
    (fRet (fAndV (fCall m_is_below [false, false] (fCons (fOp ixD (fVar 0) (fC (.int 0))) (fCons (fOp opAdd (fC (.int 10)) (fC (.int 1))) (fNil)))) (fCall m_are_ties [false, false] (fCons (fOp ixD (fVar 0) (fC (.int 0))) (fCons (fOp ixD (fVar 0) (fC (.int 1))) (fNil))))))
def m_is_web : FSem := semOf 1 1 b_is_web
def b_need_web : FS := fIfS (fNot (fB (fCall m_is_web [false] (fCons (fVar 0) (fNil))))) (fRaise "NoWeb") (fNext)
def m_need_web : FSem := semOf 1 1 b_need_web
def b_full_from (F : FSem) : FS := fSeq (fIfS (fAnd (fB (fOp cEq (fVar 3) (fLst (fNil)))) (fB (fOp cEq (fVar 4) (fLst (fNil))))) (fRet (fLst (fCons (fVar 2) (fNil)))) (fNext))
    (fSeq (fAsg 5 (fLst (fNil)))
    (fSeq (fFor (iEnumL (fCons (fVar 3) fNil)) (gTp [gNm 6, gNm 7]) [6, 7, 8, 9, 10] (fSeq (fAsg 8 (fLc (iSeq (fSl slD (fVar 3) (fPart (fOp opAdd (fVar 6) (fC (.int 1)))) (fNoPart))) (gNm 9) [9] (fB (fOp cEq (fOp ixD (fOp ixD (fVar 0) (fVar 7)) (fVar 9)) (fVar 1))) (fVar 9)))
    (fSeq (fAsg 10 (fLc (iSeq (fOp opAdd (fVar 4) (fSl slD (fVar 3) (fNoPart) (fPart (fVar 6))))) (gNm 9) [9] (fB (fOp cEq (fOp ixD (fOp ixD (fVar 0) (fVar 7)) (fVar 9)) (fVar 1))) (fVar 9)))
    (fDrop (fLm 5 mExtend (fCons (fCall F [false, false, false, false, false] (fCons (fVar 0) (fCons (fVar 1) (fCons (fOp opAdd (fVar 2) (fTup (fCons (fVar 7) (fNil)))) (fCons (fVar 8) (fCons (fVar 10) (fNil))))))) (fNil)))))))
    (fRet (fVar 5))))
def m_full_from : Nat → FSem
  | 0 => fun _ _ _ => False
  | n + 1 => semOf 5 11 (b_full_from (m_full_from n))
def b_all_places : FS := fRet (fRg1 mkT (fOp ixD (fVar 0) (fC (.int 0))))
def m_all_places : FSem := semOf 1 1 b_all_places
def b_rows_of : FS := fSeq (fAsg 1 (fLcL (iSeq (fCall m_all_places [false] (fCons (fVar 0) (fNil)))) (gNm 2) [2] (fYes) (fOp opMul (fLst (fCons (fC (.bool false)) (fNil))) (fOp ixD (fVar 0) (fC (.int 0))))))
    (fSeq (fFor (iSeq (fOp ixD (fVar 0) (fC (.int 1)))) (gTp [gNm 3, gNm 4]) [3, 4] (fSeq (fSetLL 1 3 4 (fC (.bool true)))
    (fSetLL 1 4 3 (fC (.bool true)))))
    (fRet (fVar 1)))
def m_rows_of : FSem := semOf 1 5 b_rows_of
def b_full_apart_in : FS := fRet (fBlt bSorted (fCons (fCall (m_full_from 16) [false, false, false, false, false] (fCons (fCall m_rows_of [false] (fCons (fVar 0) (fNil))) (fCons (fC (.bool false)) (fCons (fTup (fNil)) (fCons (fBlt bList (fCons (fCall m_all_places [false] (fCons (fVar 0) (fNil))) (fNil))) (fCons (fLst (fNil)) (fNil))))))) (fNil)))
def m_full_apart_in : FSem := semOf 1 1 b_full_apart_in
def b_Rows_init : FS := fSeq (fSetF "Rows" 0 "places" (fBlt bLen (fCons (fVar 2) (fNil))))
    (fSeq (fSetF "Rows" 0 "many" (fBlt bLen (fCons (fVar 1) (fNil))))
    (fSeq (fSetF "Rows" 0 "common" (fC (.int 1)))
    (fSeq (fSetF "Rows" 0 "rows" (fLst (fNil)))
    (fSeq (fFor (iEnumL (fCons (fVar 1) fNil)) (gTp [gNm 3, gNm 4]) [3, 4, 5, 6, 7] (fSeq (fAsg 5 (fLc (iRange1 (fCons (fFld "Rows" 0 "places") (fNil))) (gNm 6) [6] (fYes) (fBlt bInt (fCons (fOp cIn (fVar 6) (fVar 4)) (fNil)))))
    (fSeq (fAsg 5 (fOp opAdd (fOp opAdd (fVar 5) (fLc (iRange1 (fCons (fFld "Rows" 0 "many") (fNil))) (gNm 7) [7] (fYes) (fBlt bInt (fCons (fOp cEq (fVar 7) (fVar 3)) (fNil))))) (fLst (fCons (fC (.int 1)) (fNil)))))
    (fDrop (fLmF "Rows" 0 "rows" mAppend 5)))))
    (fSeq (fSetF "Rows" 0 "below" (fOp opAdd (fLc (iSeq (fVar 2)) (gNm 8) [8] (fYes) (fUn uNeg (fVar 8))) (fOp opMul (fLst (fCons (fC (.int 0)) (fNil))) (fOp opAdd (fFld "Rows" 0 "many") (fC (.int 1))))))
    (fSetF "Rows" 0 "at_work" (fLc (iRange1 (fCons (fFld "Rows" 0 "many") (fNil))) (gNm 3) [3] (fYes) (fOp opAdd (fFld "Rows" 0 "places") (fVar 3)))))))))
def m_Rows_init : FSem := semOf 3 9 b_Rows_init
def b_Rows_entering : FS := fSeq (fFor (iRange1 (fCons (fOp opAdd (fFld "Rows" 0 "places") (fFld "Rows" 0 "many")) (fNil))) (gNm 1) [1] (fIfS (fB (fOp cLt (fOp ixD (fFld "Rows" 0 "below") (fVar 1)) (fC (.int 0)))) (fRet (fVar 1)) (fNext)))
    (fRet (fC .none))
def m_Rows_entering : FSem := semOf 1 2 b_Rows_entering
def b_Rows_cleared : FS := fSeq (fAsg 4 (fOp ixD (fVar 2) (fVar 3)))
    (fSeq (fAsg 5 (fOp ixD (fVar 1) (fVar 3)))
    (fRet (fLc (iZipS (fCons (fVar 1) (fCons (fVar 2) (fNil)))) (gTp [gNm 6, gNm 7]) [6, 7] (fYes) (fOp opFdiv (fOp opSub (fOp opMul (fVar 6) (fVar 4)) (fOp opMul (fVar 5) (fVar 7))) (fFld "Rows" 0 "common")))))
def m_Rows_cleared : FSem := semOf 4 8 b_Rows_cleared
def b_Rows_turn : FS := fSeq (fAsg 3 (fFldIx "Rows" 0 "rows" 1))
    (fSeq (fFor (iRange1 (fCons (fFld "Rows" 0 "many") (fNil))) (gNm 4) [4] (fIfS (fB (fOp cNe (fVar 4) (fVar 1))) (fSetFI "Rows" 0 "rows" 4 (fBor (fMeth "Rows" "cleared" 0 m_Rows_cleared [false, false, false, false] (fCons (fOp ixD (fFld "Rows" 0 "rows") (fVar 4)) (fCons (fVar 3) (fCons (fVar 2) (fNil))))))) (fNext)))
    (fSeq (fSetF "Rows" 0 "below" (fBor (fMeth "Rows" "cleared" 0 m_Rows_cleared [false, false, false, false] (fCons (fFld "Rows" 0 "below") (fCons (fVar 3) (fCons (fVar 2) (fNil)))))))
    (fSeq (fSetF "Rows" 0 "common" (fOp ixD (fVar 3) (fVar 2)))
    (fSetFI "Rows" 0 "at_work" 1 (fVar 2)))))
def m_Rows_turn : FSem := semOf 3 5 b_Rows_turn
def b_Rows_bounds_more : FS := fSeq (fAsg 4 (fOp opMul (fOp ixD (fOp ixD (fFld "Rows" 0 "rows") (fVar 1)) (fUn uNeg (fC (.int 1)))) (fOp ixD (fOp ixD (fFld "Rows" 0 "rows") (fVar 2)) (fVar 3))))
    (fSeq (fAsg 5 (fOp opMul (fOp ixD (fOp ixD (fFld "Rows" 0 "rows") (fVar 2)) (fUn uNeg (fC (.int 1)))) (fOp ixD (fOp ixD (fFld "Rows" 0 "rows") (fVar 1)) (fVar 3))))
    (fSeq (fIfS (fB (fOp cNe (fVar 4) (fVar 5))) (fRet (fOp cLt (fVar 4) (fVar 5))) (fNext))
    (fRet (fOp cLt (fOp ixD (fFld "Rows" 0 "at_work") (fVar 1)) (fOp ixD (fFld "Rows" 0 "at_work") (fVar 2))))))
def m_Rows_bounds_more : FSem := semOf 4 6 b_Rows_bounds_more
def b_Rows_leaving : FS := fSeq (fAsg 2 (fC .none))
    (fSeq (fFor (iEnumL (fCons (fFld "Rows" 0 "rows") fNil)) (gTp [gNm 3, gNm 4]) [3, 4] (fIfS (fAnd (fB (fOp cGt (fOp ixD (fVar 4) (fVar 1)) (fC (.int 0)))) (fOr (fB (fOp cIs (fVar 2) (fC .none))) (fB (fMeth "Rows" "bounds_more" 0 m_Rows_bounds_more [false, false, false, false] (fCons (fVar 3) (fCons (fVar 2) (fCons (fVar 1) (fNil)))))))) (fAsg 2 (fVar 3)) (fNext)))
    (fRet (fVar 2)))
def m_Rows_leaving : FSem := semOf 2 5 b_Rows_leaving
def b_Rows_finish : FS := fSeq (fAsg 1 (fBor (fMeth "Rows" "entering" 0 m_Rows_entering [false] fNil)))
    (fWhile [] (fB (fOp cIsNot (fVar 1) (fC .none))) (fSeq (fDrop (fMeth "Rows" "turn" 0 m_Rows_turn [true, false, false] (fCons (fBor (fMeth "Rows" "leaving" 0 m_Rows_leaving [false, false] (fCons (fVar 1) (fNil)))) (fCons (fVar 1) (fNil)))))
    (fAsg 1 (fBor (fMeth "Rows" "entering" 0 m_Rows_entering [false] fNil)))))
def m_Rows_finish : FSem := semOf 1 2 b_Rows_finish
def b_divisor : FS := fSeq (fAsg 0 (fBlt bAbs (fCons (fVar 0) (fNil))))
    (fSeq (fAsg 1 (fBlt bAbs (fCons (fVar 1) (fNil))))
    (fSeq (fWhile [] (fB (fOp cGt (fVar 1) (fC (.int 0)))) (fPar 0 1 (fCons (fVar 1) (fCons (fOp opMod (fVar 0) (fVar 1)) (fNil)))))
    (fRet (fVar 0))))
def m_divisor : FSem := semOf 2 2 b_divisor
def b_lowest : FS := fSeq (fAsg 2 (fCall m_divisor [false, false] (fCons (fVar 0) (fCons (fVar 1) (fNil)))))
    (fRet (fTup (fCons (fOp opFdiv (fVar 0) (fVar 2)) (fCons (fOp opFdiv (fVar 1) (fVar 2)) (fNil)))))
def m_lowest : FSem := semOf 2 3 b_lowest
def b_Rows_share : FS := fRet (fCall m_lowest [false, false] (fCons (fOp ixD (fFld "Rows" 0 "below") (fOp opAdd (fFld "Rows" 0 "places") (fVar 1))) (fCons (fFld "Rows" 0 "common") (fNil))))
def m_Rows_share : FSem := semOf 2 2 b_Rows_share
def b_plus : FS := fRet (fCall m_lowest [false, false] (fCons (fOp opAdd (fOp opMul (fOp ixD (fVar 0) (fC (.int 0))) (fOp ixD (fVar 1) (fC (.int 1)))) (fOp opMul (fOp ixD (fVar 1) (fC (.int 0))) (fOp ixD (fVar 0) (fC (.int 1))))) (fCons (fOp opMul (fOp ixD (fVar 0) (fC (.int 1))) (fOp ixD (fVar 1) (fC (.int 1)))) (fNil))))
def m_plus : FSem := semOf 2 2 b_plus
def b_sum_of_fractions : FS := fSeq (fAsg 1 (fTup (fCons (fC (.int 0)) (fCons (fC (.int 1)) (fNil)))))
    (fSeq (fFor (iSeq (fVar 0)) (gNm 2) [2] (fAsg 1 (fCall m_plus [false, false] (fCons (fVar 1) (fCons (fVar 2) (fNil))))))
    (fRet (fVar 1)))
def m_sum_of_fractions : FSem := semOf 1 3 b_sum_of_fractions
def b_Rows_prices : FS := fSeq (fAsg 1 (fLc (iRange1 (fCons (fFld "Rows" 0 "places") (fNil))) (gNm 2) [2] (fYes) (fTup (fCons (fC (.int 0)) (fCons (fC (.int 1)) (fNil))))))
    (fSeq (fFor (iEnumL (fCons (fFld "Rows" 0 "at_work") fNil)) (gTp [gNm 3, gNm 4]) [3, 4] (fIfS (fB (fOp cLt (fVar 4) (fFld "Rows" 0 "places"))) (fSetIx 1 (fVar 4) (fCall m_lowest [false, false] (fCons (fOp ixD (fOp ixD (fFld "Rows" 0 "rows") (fVar 3)) (fUn uNeg (fC (.int 1)))) (fCons (fFld "Rows" 0 "common") (fNil))))) (fNext)))
    (fRet (fVar 1)))
def m_Rows_prices : FSem := semOf 1 5 b_Rows_prices
def b_shares_in : FS := fSeq (fAsg 2 (fCall m_full_apart_in [false] (fCons (fVar 0) (fNil))))
    (fSeq (fAsg 3 (fMake "Rows" m_Rows_init [false, false] (fCons (fVar 2) (fCons (fVar 1) (fNil)))))
    (fSeq (fDrop (fMeth "Rows" "finish" 3 m_Rows_finish [true] fNil))
    (fSeq (fAsg 4 (fLst (fNil)))
    (fSeq (fFor (iEnumL (fCons (fVar 2) fNil)) (gTp [gNm 5, gNm 6]) [5, 6, 7] (fSeq (fAsg 7 (fBor (fMeth "Rows" "share" 3 m_Rows_share [false, false] (fCons (fVar 5) (fNil)))))
    (fIfS (fB (fOp cNe (fVar 7) (fTup (fCons (fC (.int 0)) (fCons (fC (.int 1)) (fNil)))))) (fDrop (fLm 4 mAppend (fCons (fTup (fCons (fVar 6) (fCons (fVar 7) (fNil)))) (fNil)))) (fNext))))
    (fRet (fTup (fCons (fCall m_sum_of_fractions [false] (fCons (fLc (iSeq (fVar 4)) (gTp [gNm 6, gNm 7]) [6, 7] (fYes) (fVar 7)) (fNil))) (fCons (fVar 4) (fCons (fBor (fMeth "Rows" "prices" 3 m_Rows_prices [false] fNil)) (fNil))))))))))
def m_shares_in : FSem := semOf 2 8 b_shares_in
def b_Sharing_init : FS := fSeq (fDrop (fCall m_need_web [false] (fCons (fVar 1) (fNil))))
    (fSeq (fSetF "Sharing" 0 "now" (fVar 1))
    (fSeq (fSetF "Sharing" 0 "count" (fC (.int 0)))
    (fUnp (gTp [gFld "Sharing" 0 "least", gFld "Sharing" 0 "laid", gFld "Sharing" 0 "costs"]) (fCall m_shares_in [false, false] (fCons (fVar 1) (fCons (fOp opMul (fTup (fCons (fC (.int 1)) (fNil))) (fOp ixD (fVar 1) (fC (.int 0)))) (fNil)))))))
def m_Sharing_init : FSem := semOf 2 2 b_Sharing_init
def b_Sharing_web : FS := fRet (fFld "Sharing" 0 "now")
def m_Sharing_web : FSem := semOf 1 1 b_Sharing_web
def b_Sharing_value : FS := fRet (fFld "Sharing" 0 "least")
def m_Sharing_value : FSem := semOf 1 1 b_Sharing_value
def b_Sharing_laying : FS := fRet (fBlt bList (fCons (fFld "Sharing" 0 "laid") (fNil)))
def m_Sharing_laying : FSem := semOf 1 1 b_Sharing_laying
def b_Sharing_again : FS := fRet (fFld "Sharing" 0 "count")
def m_Sharing_again : FSem := semOf 1 1 b_Sharing_again
def b__law_e_told : FS := fRet (fTup (fCons (fMeth "Sharing" "web" 0 m_Sharing_web [true] fNil) (fCons (fMeth "Sharing" "value" 0 m_Sharing_value [true] fNil) (fCons (fMeth "Sharing" "laying" 0 m_Sharing_laying [true] fNil) (fCons (fMeth "Sharing" "again" 0 m_Sharing_again [true] fNil) (fNil))))))
def m__law_e_told : FSem := semOf 1 1 b__law_e_told
def b__law_e_refused : FS := fSeq (fUnp (gTp [gNm 2, gNm 3]) (fVar 1))
    (fSeq (fAsg 4 (fCall m__law_e_dip [true, false] (fCons (fVar 0) (fCons (fC (.int 100000000000000000000)) (fNil)))))
    (fSeq (fAsg 5 (fLst (fNil)))
    (fSeq (fFor (iSeq (fLst (fCons (fTup (fCons (fVar 2) (fNil))) (fCons (fTup (fCons (fUn uNeg (fC (.int 1))) (fNil))) (fCons (fTup (fCons (fOp opAdd (fVar 2) (fVar 4)) (fNil))) (fCons (fTup (fCons (fOp opSub (fUn uNeg (fC (.int 1))) (fVar 4)) (fNil))) (fCons (fTup (fCons (fC (.int 0)) (fCons (fVar 2) (fNil)))) (fCons (fTup (fCons (fC (.int 0)) (fCons (fC (.int 0)) (fNil)))) (fCons (fTup (fCons (fC (.int 1)) (fCons (fC (.int 0)) (fNil)))) (fCons (fTup (fCons (fOp opSub (fVar 2) (fC (.int 1))) (fCons (fOp opSub (fVar 2) (fC (.int 1))) (fNil)))) (fCons (fTup (fCons (fVar 2) (fCons (fC (.int 0)) (fNil)))) (fNil)))))))))))) (gNm 6) [6] (fDrop (fLm 5 mAppend (fCons (fTup (fCons (fTup (fCons (fC (.str "put")) (fCons (fVar 6) (fNil)))) (fCons (fC (.str "place")) (fNil)))) (fNil)))))
    (fSeq (fFor (iSeq (fLst (fCons (fUn uNeg (fC (.int 1))) (fCons (fVar 2) (fCons (fOp opAdd (fVar 2) (fVar 4)) (fCons (fOp opSub (fUn uNeg (fC (.int 1))) (fVar 4)) (fNil))))))) (gNm 7) [7, 8] (fFor (iSeq (fLst (fCons (fC (.str "tie")) (fCons (fC (.str "untie")) (fNil))))) (gNm 8) [8] (fAsg 5 (fOp opAdd (fVar 5) (fLst (fCons (fTup (fCons (fTup (fCons (fVar 8) (fCons (fVar 7) (fCons (fC (.int 0)) (fNil))))) (fCons (fC (.str "place")) (fNil)))) (fCons (fTup (fCons (fTup (fCons (fVar 8) (fCons (fC (.int 0)) (fCons (fVar 7) (fNil))))) (fCons (fC (.str "place")) (fNil)))) (fCons (fTup (fCons (fTup (fCons (fVar 8) (fCons (fVar 7) (fCons (fVar 7) (fNil))))) (fCons (fC (.str "place")) (fNil)))) (fNil)))))))))
    (fSeq (fFor (iRange1 (fCons (fVar 2) (fNil))) (gNm 7) [7, 8, 9] (fSeq (fAsg 5 (fOp opAdd (fVar 5) (fLst (fCons (fTup (fCons (fTup (fCons (fC (.str "tie")) (fCons (fVar 7) (fCons (fVar 7) (fNil))))) (fCons (fC (.str "place")) (fNil)))) (fCons (fTup (fCons (fTup (fCons (fC (.str "untie")) (fCons (fVar 7) (fCons (fVar 7) (fNil))))) (fCons (fC (.str "place")) (fNil)))) (fNil))))))
    (fFor (iRange2 (fCons (fOp opAdd (fVar 7) (fC (.int 1))) (fCons (fVar 2) (fNil)))) (gNm 9) [8, 9] (fSeq (fAsg 8 (fOp ixD (fLst (fCons (fC (.str "untie")) (fCons (fC (.str "tie")) (fNil)))) (fBlt bInt (fCons (fOp cIn (fTup (fCons (fVar 7) (fCons (fVar 9) (fNil)))) (fVar 3)) (fNil)))))
    (fAsg 5 (fOp opAdd (fVar 5) (fLst (fCons (fTup (fCons (fTup (fCons (fVar 8) (fCons (fVar 7) (fCons (fVar 9) (fNil))))) (fCons (fC (.str "tie")) (fNil)))) (fCons (fTup (fCons (fTup (fCons (fVar 8) (fCons (fVar 9) (fCons (fVar 7) (fNil))))) (fCons (fC (.str "tie")) (fNil)))) (fNil))))))))))
    (fSeq (fIfS (fB (fOp cEq (fVar 2) (fC (.int 10)))) (fAsg 5 (fOp opAdd (fVar 5) (fLst (fCons (fTup (fCons (fTup (fCons (fC (.str "put")) (fCons (fTup (fNil)) (fNil)))) (fCons (fC (.str "many")) (fNil)))) (fCons (fTup (fCons (fTup (fCons (fC (.str "put")) (fCons (fTup (fCons (fC (.int 0)) (fCons (fC (.int 9)) (fNil)))) (fNil)))) (fCons (fC (.str "many")) (fNil)))) (fCons (fTup (fCons (fTup (fCons (fC (.str "put")) (fCons (fTup (fCons (fC (.int 0)) (fCons (fC (.int 10)) (fNil)))) (fNil)))) (fCons (fC (.str "place")) (fNil)))) (fNil))))))) (fNext))
    (fSeq (fIfS (fB (fOp cEq (fVar 2) (fC (.int 0)))) (fDrop (fLm 5 mAppend (fCons (fTup (fCons (fTup (fCons (fC (.str "drop")) (fNil))) (fCons (fC (.str "place")) (fNil)))) (fNil)))) (fNext))
    (fRet (fVar 5)))))))))
def m__law_e_refused : FSem := semOf 2 10 b__law_e_refused
def b__law_e_kind : FS := fSeq (fAsg 1 (fLst (fCons (fC (.str "fold")) (fCons (fC (.str "number")) (fCons (fC (.str "place")) (fCons (fC (.str "row")) (fCons (fC (.str "text")) (fCons (fC (.str "tie")) (fCons (fC (.str "wants")) (fCons (fC (.str "web")) (fCons (fC (.str "many")) (fNil))))))))))))
    (fSeq (fAsg 2 (fLst (fCons (fUn (bIsX [("NoWeb", false), ("NoPlace", false), ("NoTie", false), ("TooMany", false)]) (fVar 0)) (fCons (fUn (bIsX [("NoWeb", false), ("NoPlace", false), ("NoTie", false), ("TooMany", false)]) (fVar 0)) (fCons (fUn (bIsX [("NoWeb", false), ("NoPlace", true), ("NoTie", false), ("TooMany", false)]) (fVar 0)) (fNil))))))
    (fSeq (fAsg 2 (fOp opAdd (fVar 2) (fLst (fCons (fUn (bIsX [("NoWeb", false), ("NoPlace", false), ("NoTie", false), ("TooMany", false)]) (fVar 0)) (fCons (fUn (bIsX [("NoWeb", false), ("NoPlace", false), ("NoTie", false), ("TooMany", false)]) (fVar 0)) (fCons (fUn (bIsX [("NoWeb", false), ("NoPlace", false), ("NoTie", true), ("TooMany", false)]) (fVar 0)) (fNil)))))))
    (fSeq (fAsg 2 (fOp opAdd (fVar 2) (fLst (fCons (fUn (bIsX [("NoWeb", false), ("NoPlace", false), ("NoTie", false), ("TooMany", false)]) (fVar 0)) (fCons (fUn (bIsX [("NoWeb", true), ("NoPlace", false), ("NoTie", false), ("TooMany", false)]) (fVar 0)) (fCons (fUn (bIsX [("NoWeb", false), ("NoPlace", false), ("NoTie", false), ("TooMany", true)]) (fVar 0)) (fNil)))))))
    (fSeq (fIfS (fOr (fB (fOp cNe (fLm 2 mCountB (fCons (fC (.bool true)) (fNil))) (fC (.int 1)))) (fNot (fB (fUn (bIsX [("NoWeb", true), ("NoPlace", true), ("NoTie", true), ("TooMany", true)]) (fVar 0))))) (fRet (fC (.str "odd"))) (fNext))
    (fRet (fOp ixD (fVar 1) (fLm 2 mIndexB (fCons (fC (.bool true)) (fNil)))))))))
def m__law_e_kind : FSem := semOf 1 3 b__law_e_kind
def b_is_place : FS := fRet (fAndV (fUn (bIs "int") (fVar 1)) (fAndV (fNotV (fUn (bIs "bool") (fVar 1))) (fChain cLe cLt (fC (.int 0)) (fVar 1) (fOp ixD (fVar 0) (fC (.int 0))))))
def m_is_place : FSem := semOf 2 2 b_is_place
def b_Sharing_need_pair : FS := fIfS (fOr (fNot (fB (fCall m_is_place [false, false] (fCons (fFld "Sharing" 0 "now") (fCons (fVar 1) (fNil)))))) (fOr (fNot (fB (fCall m_is_place [false, false] (fCons (fFld "Sharing" 0 "now") (fCons (fVar 2) (fNil)))))) (fB (fOp cEq (fVar 1) (fVar 2))))) (fRaise "NoPlace") (fNext)
def m_Sharing_need_pair : FSem := semOf 3 3 b_Sharing_need_pair
def b_tied_in : FS := fRet (fOp cIn (fTup (fCons (fBlt bMin2 (fCons (fVar 1) (fCons (fVar 2) (fNil)))) (fCons (fBlt bMax2 (fCons (fVar 1) (fCons (fVar 2) (fNil)))) (fNil)))) (fOp ixD (fVar 0) (fC (.int 1))))
def m_tied_in : FSem := semOf 3 3 b_tied_in
def b_is_laid : FS := fSeq (fFor (iSeq (fVar 1)) (gTp [gNm 2, gNm 3]) [2, 3, 4, 5, 6, 7] (fSeq (fIfS (fNot (fB (fBlt bAll (fCons (fLc (iSeq (fVar 2)) (gNm 4) [4] (fYes) (fOp cLt (fVar 4) (fOp ixD (fVar 0) (fC (.int 0))))) (fNil))))) (fRet (fC (.bool false))) (fNext))
    (fFor (iEnumL (fCons (fVar 2) fNil)) (gTp [gNm 5, gNm 6]) [5, 6, 7] (fIfS (fB (fBlt bAny (fCons (fLc (iSeq (fSl slD (fVar 2) (fNoPart) (fPart (fVar 5)))) (gNm 7) [7] (fYes) (fCall m_tied_in [false, false, false] (fCons (fVar 0) (fCons (fVar 6) (fCons (fVar 7) (fNil)))))) (fNil)))) (fRet (fC (.bool false))) (fNext)))))
    (fRet (fC (.bool true)))
def m_is_laid : FSem := semOf 2 8 b_is_laid
def b_sum_of_sharing : FS := fSeq (fAsg 1 (fTup (fCons (fC (.int 0)) (fCons (fC (.int 1)) (fNil)))))
    (fSeq (fFor (iSeq (fVar 0)) (gTp [gNm 2, gNm 3]) [2, 3] (fAsg 1 (fCall m_plus [false, false] (fCons (fVar 1) (fCons (fVar 3) (fNil))))))
    (fRet (fVar 1)))
def m_sum_of_sharing : FSem := semOf 1 4 b_sum_of_sharing
def b_is_less : FS := fRet (fOp cLt (fOp opMul (fOp ixD (fVar 0) (fC (.int 0))) (fOp ixD (fVar 1) (fC (.int 1)))) (fOp opMul (fOp ixD (fVar 1) (fC (.int 0))) (fOp ixD (fVar 0) (fC (.int 1)))))
def m_is_less : FSem := semOf 2 2 b_is_less
def b_sum_at : FS := fSeq (fAsg 2 (fTup (fCons (fC (.int 0)) (fCons (fC (.int 1)) (fNil)))))
    (fSeq (fFor (iSeq (fVar 0)) (gTp [gNm 3, gNm 4]) [3, 4] (fIfS (fB (fOp cIn (fVar 1) (fVar 3))) (fAsg 2 (fCall m_plus [false, false] (fCons (fVar 2) (fCons (fVar 4) (fNil))))) (fNext)))
    (fRet (fVar 2)))
def m_sum_at : FSem := semOf 2 5 b_sum_at
def b_still_good : FS := fSeq (fIfS (fOr (fNot (fB (fCall m_is_laid [false, false] (fCons (fVar 0) (fCons (fVar 1) (fNil)))))) (fB (fOp cNe (fCall m_sum_of_sharing [false] (fCons (fVar 1) (fNil))) (fVar 2)))) (fRet (fC (.bool false))) (fNext))
    (fRet (fNotV (fBlt bAny (fCons (fLc (iRange1 (fCons (fOp ixD (fVar 0) (fC (.int 0))) (fNil))) (gNm 3) [3] (fYes) (fCall m_is_less [false, false] (fCons (fCall m_sum_at [false, false] (fCons (fVar 1) (fCons (fVar 3) (fNil)))) (fCons (fTup (fCons (fC (.int 1)) (fCons (fC (.int 1)) (fNil)))) (fNil))))) (fNil)))))
def m_still_good : FSem := semOf 3 4 b_still_good
def b_Sharing_change : FS := fSeq (fSetF "Sharing" 0 "now" (fVar 1))
    (fSeq (fUnp (gTp [gFld "Sharing" 0 "least", gNm 2, gFld "Sharing" 0 "costs"]) (fCall m_shares_in [false, false] (fCons (fVar 1) (fCons (fOp opMul (fTup (fCons (fC (.int 1)) (fNil))) (fOp ixD (fVar 1) (fC (.int 0)))) (fNil)))))
    (fIfS (fNot (fB (fCall m_still_good [false, false, false] (fCons (fVar 1) (fCons (fFld "Sharing" 0 "laid") (fCons (fFld "Sharing" 0 "least") (fNil))))))) (fSeq (fSetF "Sharing" 0 "laid" (fVar 2))
    (fSetF "Sharing" 0 "count" (fOp opAdd (fFld "Sharing" 0 "count") (fC (.int 1))))) (fNext)))
def m_Sharing_change : FSem := semOf 2 3 b_Sharing_change
def b_Sharing_untie : FS := fSeq (fDrop (fMeth "Sharing" "need_pair" 0 m_Sharing_need_pair [true, false, false] (fCons (fVar 1) (fCons (fVar 2) (fNil)))))
    (fSeq (fIfS (fNot (fB (fCall m_tied_in [false, false, false] (fCons (fFld "Sharing" 0 "now") (fCons (fVar 1) (fCons (fVar 2) (fNil))))))) (fRaise "NoTie") (fNext))
    (fSeq (fAsg 3 (fTup (fCons (fBlt bMin2 (fCons (fVar 1) (fCons (fVar 2) (fNil)))) (fCons (fBlt bMax2 (fCons (fVar 1) (fCons (fVar 2) (fNil)))) (fNil)))))
    (fDrop (fMeth "Sharing" "change" 0 m_Sharing_change [true, false] (fCons (fTup (fCons (fOp ixD (fFld "Sharing" 0 "now") (fC (.int 0))) (fCons (fBlt bTuple (fCons (fLc (iSeq (fOp ixD (fFld "Sharing" 0 "now") (fC (.int 1)))) (gNm 4) [4] (fB (fOp cNe (fVar 4) (fVar 3))) (fVar 4)) (fNil))) (fNil)))) (fNil))))))
def m_Sharing_untie : FSem := semOf 3 5 b_Sharing_untie
def b_are_places : FS := fSeq (fIfS (fOr (fNot (fB (fUn (bIs "tuple") (fVar 1)))) (fNot (fB (fBlt bAll (fCons (fLc (iSeq (fVar 1)) (gNm 2) [2] (fYes) (fCall m_is_place [false, false] (fCons (fVar 0) (fCons (fVar 2) (fNil))))) (fNil)))))) (fRet (fC (.bool false))) (fNext))
    (fRet (fBlt bAll (fCons (fLc (iRange1 (fCons (fOp opSub (fBlt bLen (fCons (fVar 1) (fNil))) (fC (.int 1))) (fNil))) (gNm 3) [3] (fYes) (fOp cLt (fOp ixD (fVar 1) (fVar 3)) (fOp ixD (fVar 1) (fOp opAdd (fVar 3) (fC (.int 1)))))) (fNil))))
def m_are_places : FSem := semOf 2 4 b_are_places
def b_Sharing_put : FS := fSeq (fIfS (fNot (fB (fCall m_are_places [false, false] (fCons (fFld "Sharing" 0 "now") (fCons (fVar 1) (fNil)))))) (fRaise "NoPlace") (fNext))
    (fSeq (fAsg 2 (fOp ixD (fFld "Sharing" 0 "now") (fC (.int 0))))
    (fSeq (fIfS (fB (fOp cEq (fVar 2) (fC (.int 10)))) (fRaise "TooMany") (fNext))
    (fSeq (fAsg 3 (fLc (iSeq (fVar 1)) (gNm 4) [4] (fYes) (fTup (fCons (fVar 4) (fCons (fVar 2) (fNil))))))
    (fSeq (fDrop (fMeth "Sharing" "change" 0 m_Sharing_change [true, false] (fCons (fTup (fCons (fOp opAdd (fVar 2) (fC (.int 1))) (fCons (fBlt bTuple (fCons (fBlt bSorted (fCons (fOp opAdd (fBlt bList (fCons (fOp ixD (fFld "Sharing" 0 "now") (fC (.int 1))) (fNil))) (fVar 3)) (fNil))) (fNil))) (fNil)))) (fNil))))
    (fRet (fVar 2))))))
def m_Sharing_put : FSem := semOf 2 5 b_Sharing_put
def b_Sharing_drop : FS := fSeq (fIfS (fB (fOp cEq (fOp ixD (fFld "Sharing" 0 "now") (fC (.int 0))) (fC (.int 0)))) (fRaise "NoPlace") (fNext))
    (fSeq (fAsg 1 (fOp opSub (fOp ixD (fFld "Sharing" 0 "now") (fC (.int 0))) (fC (.int 1))))
    (fDrop (fMeth "Sharing" "change" 0 m_Sharing_change [true, false] (fCons (fTup (fCons (fVar 1) (fCons (fBlt bTuple (fCons (fLc (iSeq (fOp ixD (fFld "Sharing" 0 "now") (fC (.int 1)))) (gNm 2) [2] (fB (fOp cNe (fOp ixD (fVar 2) (fC (.int 1))) (fVar 1))) (fVar 2)) (fNil))) (fNil)))) (fNil)))))
def m_Sharing_drop : FSem := semOf 1 3 b_Sharing_drop
def b_Sharing_tie : FS := fSeq (fDrop (fMeth "Sharing" "need_pair" 0 m_Sharing_need_pair [true, false, false] (fCons (fVar 1) (fCons (fVar 2) (fNil)))))
    (fSeq (fIfS (fB (fCall m_tied_in [false, false, false] (fCons (fFld "Sharing" 0 "now") (fCons (fVar 1) (fCons (fVar 2) (fNil)))))) (fRaise "NoTie") (fNext))
    (fSeq (fAsg 3 (fTup (fCons (fBlt bMin2 (fCons (fVar 1) (fCons (fVar 2) (fNil)))) (fCons (fBlt bMax2 (fCons (fVar 1) (fCons (fVar 2) (fNil)))) (fNil)))))
    (fDrop (fMeth "Sharing" "change" 0 m_Sharing_change [true, false] (fCons (fTup (fCons (fOp ixD (fFld "Sharing" 0 "now") (fC (.int 0))) (fCons (fBlt bTuple (fCons (fBlt bSorted (fCons (fOp opAdd (fOp ixD (fFld "Sharing" 0 "now") (fC (.int 1))) (fTup (fCons (fVar 3) (fNil)))) (fNil))) (fNil))) (fNil)))) (fNil))))))
def m_Sharing_tie : FSem := semOf 3 4 b_Sharing_tie
def b__law_e_do : FS := fSeq (fIfS (fB (fOp cEq (fOp ixD (fVar 1) (fC (.int 0))) (fC (.str "put")))) (fRet (fMeth "Sharing" "put" 0 m_Sharing_put [true, false] (fCons (fOp ixD (fVar 1) (fC (.int 1))) (fNil)))) (fNext))
    (fSeq (fIfS (fB (fOp cEq (fOp ixD (fVar 1) (fC (.int 0))) (fC (.str "drop")))) (fRet (fMeth "Sharing" "drop" 0 m_Sharing_drop [true] fNil)) (fNext))
    (fSeq (fIfS (fB (fOp cEq (fOp ixD (fVar 1) (fC (.int 0))) (fC (.str "tie")))) (fRet (fMeth "Sharing" "tie" 0 m_Sharing_tie [true, false, false] (fCons (fOp ixD (fVar 1) (fC (.int 1))) (fCons (fOp ixD (fVar 1) (fC (.int 2))) (fNil))))) (fNext))
    (fRet (fMeth "Sharing" "untie" 0 m_Sharing_untie [true, false, false] (fCons (fOp ixD (fVar 1) (fC (.int 1))) (fCons (fOp ixD (fVar 1) (fC (.int 2))) (fNil)))))))
def m__law_e_do : FSem := semOf 2 2 b__law_e_do
def b__law_e_word : FS := fSeq (fAsg 2 (fC .none))
    (fSeq (fTry ["NoWeb", "NoPlace", "NoTie", "TooMany"] 3 (fIfS (fB (fIsNo 0)) (fDrop (fMake "Sharing" m_Sharing_init [false] (fCons (fVar 1) (fNil)))) (fDrop (fCall m__law_e_do [true, false] (fCons (fVar 0) (fCons (fVar 1) (fNil)))))) (fAsg 2 (fVar 3)))
    (fSeq (fIfS (fB (fOp cIs (fVar 2) (fC .none))) (fRet (fC (.str ""))) (fNext))
    (fRet (fCall m__law_e_kind [false] (fCons (fVar 2) (fNil))))))
def m__law_e_word : FSem := semOf 2 4 b__law_e_word
def b__law_e_next : FS := fSeq (fUnp (gTp [gNm 3, gNm 4]) (fVar 1))
    (fSeq (fAsg 5 (fCall m__law_e_dip [true, false] (fCons (fVar 0) (fCons (fC (.int 8)) (fNil)))))
    (fSeq (fIfS (fOr (fB (fOp cEq (fVar 3) (fC (.int 0)))) (fAnd (fB (fOp cLt (fVar 5) (fC (.int 2)))) (fB (fOp cLt (fVar 3) (fVar 2))))) (fSeq (fAsg 6 (fBlt bTuple (fCons (fLc (iRange1 (fCons (fVar 3) (fNil))) (gNm 7) [7] (fB (fOp cEq (fCall m__law_e_dip [true, false] (fCons (fVar 0) (fCons (fC (.int 2)) (fNil)))) (fC (.int 0)))) (fVar 7)) (fNil))))
    (fRet (fTup (fCons (fTup (fCons (fC (.str "put")) (fCons (fVar 6) (fNil)))) (fCons (fTup (fCons (fOp opAdd (fVar 3) (fC (.int 1))) (fCons (fBlt bTuple (fCons (fBlt bSorted (fCons (fOp opAdd (fBlt bList (fCons (fVar 4) (fNil))) (fLc (iSeq (fVar 6)) (gNm 7) [7] (fYes) (fTup (fCons (fVar 7) (fCons (fVar 3) (fNil)))))) (fNil))) (fNil))) (fNil)))) (fNil)))))) (fNext))
    (fSeq (fIfS (fOr (fB (fOp cLt (fVar 3) (fC (.int 2)))) (fAnd (fB (fOp cEq (fVar 5) (fC (.int 2)))) (fB (fOp cGt (fVar 3) (fC (.int 2)))))) (fRet (fTup (fCons (fTup (fCons (fC (.str "drop")) (fNil))) (fCons (fTup (fCons (fOp opSub (fVar 3) (fC (.int 1))) (fCons (fBlt bTuple (fCons (fLc (iSeq (fVar 4)) (gNm 8) [8] (fB (fOp cLt (fOp ixD (fVar 8) (fC (.int 1))) (fOp opSub (fVar 3) (fC (.int 1))))) (fVar 8)) (fNil))) (fNil)))) (fNil))))) (fNext))
    (fSeq (fAsg 9 (fCall m__law_e_dip [true, false] (fCons (fVar 0) (fCons (fVar 3) (fNil)))))
    (fSeq (fAsg 10 (fOp opMod (fOp opAdd (fOp opAdd (fVar 9) (fC (.int 1))) (fCall m__law_e_dip [true, false] (fCons (fVar 0) (fCons (fOp opSub (fVar 3) (fC (.int 1))) (fNil))))) (fVar 3)))
    (fSeq (fAsg 11 (fTup (fCons (fBlt bMin2 (fCons (fVar 9) (fCons (fVar 10) (fNil)))) (fCons (fBlt bMax2 (fCons (fVar 9) (fCons (fVar 10) (fNil)))) (fNil)))))
    (fSeq (fIfS (fB (fOp cIn (fVar 11) (fVar 4))) (fRet (fTup (fCons (fTup (fCons (fC (.str "untie")) (fCons (fVar 9) (fCons (fVar 10) (fNil))))) (fCons (fTup (fCons (fVar 3) (fCons (fBlt bTuple (fCons (fLc (iSeq (fVar 4)) (gNm 8) [8] (fB (fOp cNe (fVar 8) (fVar 11))) (fVar 8)) (fNil))) (fNil)))) (fNil))))) (fNext))
    (fRet (fTup (fCons (fTup (fCons (fC (.str "tie")) (fCons (fVar 9) (fCons (fVar 10) (fNil))))) (fCons (fTup (fCons (fVar 3) (fCons (fBlt bTuple (fCons (fBlt bSorted (fCons (fOp opAdd (fVar 4) (fTup (fCons (fVar 11) (fNil)))) (fNil))) (fNil))) (fNil)))) (fNil))))))))))))
def m__law_e_next : FSem := semOf 3 12 b__law_e_next
def b_law : FS := fSeq (fAsg 1 (fLst (fCons (fVar 0) (fCons (fC (.int 0)) (fCons (fC (.int 0)) (fNil))))))
    (fSeq (fAsg 2 (fLst (fCons (fC .none) (fCons (fTup (fNil)) (fCons (fTup (fCons (fC (.int 11)) (fCons (fTup (fNil)) (fNil)))) (fCons (fTup (fCons (fC (.int 2)) (fCons (fTup (fCons (fTup (fCons (fC (.int 1)) (fCons (fC (.int 0)) (fNil)))) (fNil))) (fNil)))) (fCons (fTup (fCons (fC (.int 2)) (fCons (fTup (fCons (fTup (fCons (fC (.int 0)) (fCons (fC (.int 2)) (fNil)))) (fNil))) (fNil)))) (fCons (fLst (fCons (fC (.int 2)) (fCons (fTup (fNil)) (fNil)))) (fCons (fTup (fCons (fC (.int 2)) (fCons (fLst (fCons (fTup (fCons (fC (.int 0)) (fCons (fC (.int 1)) (fNil)))) (fNil))) (fNil)))) (fCons (fTup (fCons (fC (.bool true)) (fCons (fTup (fNil)) (fNil)))) (fNil)))))))))))
    (fSeq (fFor (iSeq (fOp opAdd (fVar 2) (fLst (fCons (fTup (fCons (fC (.int 2)) (fCons (fTup (fCons (fTup (fCons (fC (.int 0)) (fCons (fC (.int 0)) (fNil)))) (fNil))) (fNil)))) (fNil))))) (gNm 3) [3] (fIfS (fB (fOp cNe (fCall m__law_e_word [true, false] (fCons (fC .none) (fCons (fVar 3) (fNil)))) (fC (.str "web")))) (fRet (fC (.bool false))) (fNext)))
    (fSeq (fFor (iRange1 (fCons (fC (.int 3)) (fNil))) (gNm 4) [4, 5, 6, 7, 8, 9, 10] (fSeq (fIfS (fAnd (fB (fOp cGt (fVar 4) (fC (.int 1)))) (fB (fOp cGe (fOp ixD (fVar 1) (fC (.int 1))) (fBlt bLen (fCons (fVar 0) (fNil)))))) (fBreak) (fNext))
    (fSeq (fAsg 5 (fCall m__law_e_web [true, false] (fCons (fVar 1) (fCons (fC (.int 5)) (fNil)))))
    (fSeq (fIfS (fB (fOp cEq (fVar 4) (fC (.int 0)))) (fAsg 5 (fOp ixD (fLst (fCons (fTup (fCons (fC (.int 10)) (fCons (fTup (fNil)) (fNil)))) (fCons (fCall m__law_e_web_of [true, false] (fCons (fVar 1) (fCons (fOp ixD (fLst (fCons (fC (.int 10)) (fCons (fC (.int 0)) (fCons (fC (.int 0)) (fCons (fC (.int 0)) (fCons (fC (.int 0)) (fCons (fC (.int 0)) (fNil)))))))) (fCall m__law_e_dip [true, false] (fCons (fVar 1) (fCons (fC (.int 6)) (fNil))))) (fNil)))) (fNil)))) (fCall m__law_e_dip [true, false] (fCons (fVar 1) (fCons (fC (.int 2)) (fNil)))))) (fNext))
    (fSeq (fAsg 6 (fMake "Sharing" m_Sharing_init [false] (fCons (fVar 5) (fNil))))
    (fSeq (fIfS (fB (fOp cGt (fVar 4) (fC (.int 0)))) (fFor (iRange1 (fCons (fCall m__law_e_dip [true, false] (fCons (fVar 1) (fCons (fC (.int 4)) (fNil)))) (fNil))) (gNm 7) [7, 8] (fSeq (fUnp (gTp [gNm 8, gNm 5]) (fCall m__law_e_next [true, false, false] (fCons (fVar 1) (fCons (fVar 5) (fCons (fC (.int 5)) (fNil))))))
    (fDrop (fCall m__law_e_do [true, false] (fCons (fVar 6) (fCons (fVar 8) (fNil))))))) (fNext))
    (fSeq (fAsg 9 (fCall m__law_e_told [true] (fCons (fVar 6) (fNil))))
    (fFor (iSeq (fCall m__law_e_refused [true, false] (fCons (fVar 1) (fCons (fVar 5) (fNil))))) (gTp [gNm 8, gNm 10]) [8, 10] (fIfS (fOr (fB (fOp cNe (fCall m__law_e_word [true, false] (fCons (fVar 6) (fCons (fVar 8) (fNil)))) (fVar 10))) (fB (fOp cNe (fCall m__law_e_told [true] (fCons (fVar 6) (fNil))) (fVar 9)))) (fRet (fC (.bool false))) (fNext))))))))))
    (fRet (fC (.bool true))))))
def m_law : FSem := semOf 1 11 b_law
section
variable {P : Program} {w : World} {K : PySem.W.Frag} {mg : Str → Option Value} {base : Heap}
theorem sc__law_e_stir : FnScope ["cell", "at", "one", "two", "three"] ["cell", "at"] (defScope s__law_e_stir) := ⟨rfl, rfl, rfl, by decide +kernel, rfl, by decide +kernel, by decide +kernel⟩
theorem ok__law_e_stir (T : TxOkQ fa fn exl K mg base) : Df P w K mg base "_law_e_stir" 1 ["cell", "at"] [false, false] m__law_e_stir := by
  refine dfOk (bd := b__law_e_stir) T.toTxOk 0 0 sc__law_e_stir (by decide) (fun _ _ _ _ _ _ us hl => match us, hl with | [_, _], _ => rfl) ?_
  intro f cdv A outer s H vs E hr
  have sc := sc__law_e_stir
  exact pfs_cons (pfs_if (pft_cmp fop_ge (pf_var 0) (pf_powC 1000000000000000000) (nomark _)) (pfs_one (pfs_ret (pf_var 0))) (pfs_nil))
    (pfs_cons (pfs_set (i := 2) sc.nd (pf_op fop_mod (pf_op fop_add (pf_op fop_add (pf_op fop_mul (pf_op fop_mod (pf_var 0) (pf_int)) (pf_int)) (pf_op fop_mul (pf_var 1) (pf_int))) (pf_int)) (pf_int)))
    (pfs_cons (pfs_set (i := 3) sc.nd (pf_op fop_mod (pf_op fop_add (pf_op fop_add (pf_op fop_add (pf_op fop_mul (pf_var 2) (pf_var 2)) (pf_op fop_mul (pf_op fop_mul (pf_int) (pf_var 1)) (pf_var 1))) (pf_op fop_mul (pf_int) (pf_var 2))) (pf_int)) (pf_int)))
    (pfs_cons (pfs_set (i := 4) sc.nd (pf_op fop_mod (pf_op fop_add (pf_op fop_add (pf_op fop_add (pf_op fop_mul (pf_var 3) (pf_var 3)) (pf_op fop_mul (pf_int) (pf_var 3))) (pf_var 2)) (pf_var 1)) (pf_int)))
    (pfs_one (pfs_ret (pf_op fop_add (pf_op fop_mul (pf_var 3) (pf_int)) (pf_var 4)))))))
theorem sc__law_e_dip : FnScope ["cup", "many", "at", "cell", "found"] ["cup", "many"] (defScope s__law_e_dip) := ⟨rfl, rfl, rfl, by decide +kernel, rfl, by decide +kernel, by decide +kernel⟩
theorem ok__law_e_dip (T : TxOkQ fa fn exl K mg base) : Df P w K mg base "_law_e_dip" 2 ["cup", "many"] [true, false] m__law_e_dip := by
  refine dfOk (bd := b__law_e_dip) T.toTxOk 1 1 sc__law_e_dip (by decide) (fun _ _ _ _ _ _ us hl => match us, hl with | [_, _], _ => rfl) ?_
  intro f cdv A outer s H vs E hr
  have sc := sc__law_e_dip
  exact pfs_cons (pfs_if (pft_cmp (fop_lt hr.units0) (pf_ix fix_d (pf_var 0) (pf_int)) (pf_var 1) (nomark _)) (pfs_cons (pfs_set (i := 2) sc.nd (pf_ix fix_d (pf_var 0) (pf_int)))
    (pfs_cons (pfs_set (i := 3) sc.nd (pf_op fop_add (pf_op fop_mul (pf_int) (pf_var 2)) (pf_int)))
    (pfs_cons (pfs_if (pft_cmp (fop_lt hr.units0) (pf_var 2) (pf_blt fb_len (T.free 89) bb_len (pf_cons (pf_ix fix_d (pf_var 0) (pf_int)) (pf_nil))) (nomark _)) (pfs_one (pfs_set (i := 3) sc.nd (pf_ix fix_d (pf_ix fix_d (pf_var 0) (pf_int)) (pf_var 2)))) (pfs_one (pfs_if (pft_cmp fop_gt (pf_blt fb_len (T.free 89) bb_len (pf_cons (pf_ix fix_d (pf_var 0) (pf_int)) (pf_nil))) (pf_int) (nomark _)) (pfs_one (pfs_set (i := 3) sc.nd (pf_op fop_add (pf_op fop_mod (pf_ix fix_d (pf_ix fix_d (pf_var 0) (pf_int)) (pf_op fop_mod (pf_op fop_add (pf_op fop_mul (pf_int) (pf_var 2)) (pf_int)) (pf_blt fb_len (T.free 89) bb_len (pf_cons (pf_ix fix_d (pf_var 0) (pf_int)) (pf_nil))))) (pf_int)) (pf_op fop_mul (pf_var 2) (pf_int))))) (pfs_nil))))
    (pfs_cons (pfs_setIx 0 (pf_op fop_add (pf_var 2) (pf_int)) (pv 0) (pf_int))
    (pfs_one (pfs_setIx 0 (pf_callD (ok__law_e_stir T) (hr.mono (by decide)) (fun σ => passAt (takes_of rfl rfl rfl rfl) σ) (pf_cons (pf_var 3) (pf_cons (pf_var 2) (pf_nil)))) (pv 0) (pf_int))))))) (pfs_nil))
    (pfs_cons (pfs_set (i := 4) sc.nd (pf_op fop_mod (pf_ix fix_d (pf_var 0) (pf_int)) (pf_var 1)))
    (pfs_cons (pfs_setIx 0 (pf_op fop_fdiv (pf_ix fix_d (pf_var 0) (pf_int)) (pf_var 1)) (pv 0) (pf_int))
    (pfs_one (pfs_ret (pf_var 4)))))
theorem sc__law_e_web_of : FnScope ["cup", "n", "often", "ties", "i", "j"] ["cup", "n"] (defScope s__law_e_web_of) := ⟨rfl, rfl, rfl, by decide +kernel, rfl, by decide +kernel, by decide +kernel⟩
theorem ok__law_e_web_of (T : TxOkQ fa fn exl K mg base) : Df P w K mg base "_law_e_web_of" 3 ["cup", "n"] [true, false] m__law_e_web_of := by
  refine dfOk (bd := b__law_e_web_of) T.toTxOk 2 2 sc__law_e_web_of (by decide) (fun _ _ _ _ _ _ us hl => match us, hl with | [_, _], _ => rfl) ?_
  intro f cdv A outer s H vs E hr
  have sc := sc__law_e_web_of
  exact pfs_cons (pfs_set (i := 2) sc.nd (pf_callD (ok__law_e_dip T) (hr.mono (by decide)) (fun σ => passAt (takes_of rfl rfl rfl rfl) σ) (pf_cons (pf_var 0) (pf_cons (pf_int) (pf_nil)))))
    (pfs_cons (pfs_set (i := 3) sc.nd (pf_lst (pf_nil)))
    (pfs_cons (pfs_for (ws := [4]) (wp := [4, 5]) (passes_of rfl) rfl (pfi_range1 rfl (T.free 90) (pf_cons (pf_var 1) (pf_nil))) (pfg_nm sc.nd) (pfs_one (pfs_for (ws := [5]) (wp := [5]) (passes_of rfl) rfl (pfi_range2 rfl (T.free 90) (pf_cons (pf_op fop_add (pf_var 4) (pf_int)) (pf_cons (pf_var 1) (pf_nil)))) (pfg_nm sc.nd) (pfs_one (pfs_if (pft_cmp (fop_lt hr.units0) (pf_callD (ok__law_e_dip T) (hr.mono (by decide)) (fun σ => passAt (takes_of rfl rfl rfl rfl) σ) (pf_cons (pf_var 0) (pf_cons (pf_int) (pf_nil)))) (pf_var 2) (nomark _)) (pfs_one (pfs_expr (pf_lm 3 PySem.F.slot_list_append PySem.F.type_list_append fm_append (pf_cons (pf_tup (pf_cons (pf_var 4) (pf_cons (pf_var 5) (pf_nil)))) (pf_nil)) (pv 3)))) (pfs_nil))))))
    (pfs_one (pfs_ret (pf_tup (pf_cons (pf_var 1) (pf_cons (pf_bty fb_tuple (T.free 91) bb_tuple (pf_cons (pf_var 3) (pf_nil))) (pf_nil))))))))
theorem sc__law_e_web : FnScope ["cup", "most", "n"] ["cup", "most"] (defScope s__law_e_web) := ⟨rfl, rfl, rfl, by decide +kernel, rfl, by decide +kernel, by decide +kernel⟩
theorem ok__law_e_web (T : TxOkQ fa fn exl K mg base) : Df P w K mg base "_law_e_web" 4 ["cup", "most"] [true, false] m__law_e_web := by
  refine dfOk (bd := b__law_e_web) T.toTxOk 3 3 sc__law_e_web (by decide) (fun _ _ _ _ _ _ us hl => match us, hl with | [_, _], _ => rfl) ?_
  intro f cdv A outer s H vs E hr
  have sc := sc__law_e_web
  exact pfs_cons (pfs_set (i := 2) sc.nd (pf_callD (ok__law_e_dip T) (hr.mono (by decide)) (fun σ => passAt (takes_of rfl rfl rfl rfl) σ) (pf_cons (pf_var 0) (pf_cons (pf_op fop_add (pf_var 1) (pf_int)) (pf_nil)))))
    (pfs_one (pfs_ret (pf_callD (ok__law_e_web_of T) (hr.mono (by decide)) (fun σ => passAt (takes_of rfl rfl rfl rfl) σ) (pf_cons (pf_var 0) (pf_cons (pf_var 2) (pf_nil))))))
theorem sc_is_whole : FnScope ["thing"] ["thing"] (defScope s_is_whole) := ⟨rfl, rfl, rfl, by decide +kernel, rfl, by decide +kernel, by decide +kernel⟩
theorem ok_is_whole (T : TxOkQ fa fn exl K mg base) : Df P w K mg base "is_whole" 1 ["thing"] [false] m_is_whole := by
  refine dfOk (bd := b_is_whole) T.toTxOk 4 4 sc_is_whole (by decide) (fun _ _ _ _ _ _ us hl => match us, hl with | [_], _ => rfl) ?_
  intro f cdv A outer s H vs E hr
  have sc := sc_is_whole
  exact pfs_one (pfs_ret (pf_and (pf_isinst .int (pf_var 0) (T.free 92) (T.free 93) bb_int) (pf_one (pf_not (pf_isinst .bool (pf_var 0) (T.free 92) (T.free 94) bb_bool)))))
theorem sc_is_below : FnScope ["thing", "many"] ["thing", "many"] (defScope s_is_below) := ⟨rfl, rfl, rfl, by decide +kernel, rfl, by decide +kernel, by decide +kernel⟩
theorem ok_is_below (T : TxOkQ fa fn exl K mg base) : Df P w K mg base "is_below" 2 ["thing", "many"] [false, false] m_is_below := by
  refine dfOk (bd := b_is_below) T.toTxOk 5 5 sc_is_below (by decide) (fun _ _ _ _ _ _ us hl => match us, hl with | [_, _], _ => rfl) ?_
  intro f cdv A outer s H vs E hr
  have sc := sc_is_below
  exact pfs_one (pfs_ret (pf_and (pf_callD (ok_is_whole T) (hr.mono (by decide)) (fun σ => passAt (takes_of rfl rfl rfl rfl) σ) (pf_cons (pf_var 0) (pf_nil))) (pf_one (pf_chain fop_le (fop_lt hr.units0) (pf_int) (pf_var 0) (pf_var 1)))))
theorem sc_is_rising : FnScope ["row", "k"] ["row"] (defScope s_is_rising) := ⟨rfl, rfl, rfl, by decide +kernel, rfl, by decide +kernel, by decide +kernel⟩
theorem ok_is_rising (T : TxOkQ fa fn exl K mg base) : Df P w K mg base "is_rising" 1 ["row"] [false] m_is_rising := by
  refine dfOk (bd := b_is_rising) T.toTxOk 6 6 sc_is_rising (by decide) (fun _ _ _ _ _ _ us hl => match us, hl with | [_], _ => rfl) ?_
  intro f cdv A outer s H vs E hr
  have sc := sc_is_rising
  exact pfs_one (pfs_ret (pf_blt (fb_all rfl) (T.free 95) bb_all (pf_cons (pf_lc (own := [("k", 1)]) rfl sc.nd (pfi_range1 rfl (T.free 90) (pf_cons (pf_op fop_sub (pf_blt fb_len (T.free 89) bb_len (pf_cons (pf_var 0) (pf_nil))) (pf_int)) (pf_nil))) (blkOk_by (by rfl)) (fun s H C cl fp => pfg_nm sc.nd) (fun s H C cl fp => pfts_nil) (fun s H C cl fp => pf_cmp (fop_lt hr.units0) (pf_ix fix_d (pf_var 0) (pf_var 1)) (pf_ix fix_d (pf_var 0) (pf_op fop_add (pf_var 1) (pf_int))) (nomark _))) (pf_nil))))
theorem sc_is_tie : FnScope ["n", "thing"] ["n", "thing"] (defScope s_is_tie) := ⟨rfl, rfl, rfl, by decide +kernel, rfl, by decide +kernel, by decide +kernel⟩
theorem ok_is_tie (T : TxOkQ fa fn exl K mg base) : Df P w K mg base "is_tie" 3 ["n", "thing"] [false, false] m_is_tie := by
  refine dfOk (bd := b_is_tie) T.toTxOk 7 7 sc_is_tie (by decide) (fun _ _ _ _ _ _ us hl => match us, hl with | [_, _], _ => rfl) ?_
  intro f cdv A outer s H vs E hr
  have sc := sc_is_tie
  exact pfs_cons (pfs_if (pft_W (pfw_or (pft_not (pft_B (pf_isinst .tuple (pf_var 1) (T.free 92) (T.free 91) bb_tuple))) (pfw_or1 (pft_cmp (fop_ne hr.u64) (pf_blt fb_len (T.free 89) bb_len (pf_cons (pf_var 1) (pf_nil))) (pf_int) (nomark _))))) (pfs_one (pfs_ret (pf_bl))) (pfs_nil))
    (pfs_one (pfs_ret (pf_and (pf_callD (ok_is_below T) (hr.mono (by decide)) (fun σ => passAt (takes_of rfl rfl rfl rfl) σ) (pf_cons (pf_ix fix_d (pf_var 1) (pf_int)) (pf_cons (pf_var 0) (pf_nil)))) (pf_and (pf_callD (ok_is_below T) (hr.mono (by decide)) (fun σ => passAt (takes_of rfl rfl rfl rfl) σ) (pf_cons (pf_ix fix_d (pf_var 1) (pf_int)) (pf_cons (pf_var 0) (pf_nil)))) (pf_one (pf_cmp (fop_lt hr.units0) (pf_ix fix_d (pf_var 1) (pf_int)) (pf_ix fix_d (pf_var 1) (pf_int)) (nomark _)))))))
theorem sc_are_ties : FnScope ["n", "thing", "tie"] ["n", "thing"] (defScope s_are_ties) := ⟨rfl, rfl, rfl, by decide +kernel, rfl, by decide +kernel, by decide +kernel⟩
theorem ok_are_ties (T : TxOkQ fa fn exl K mg base) : Df P w K mg base "are_ties" 4 ["n", "thing"] [false, false] m_are_ties := by
  refine dfOk (bd := b_are_ties) T.toTxOk 8 8 sc_are_ties (by decide) (fun _ _ _ _ _ _ us hl => match us, hl with | [_, _], _ => rfl) ?_
  intro f cdv A outer s H vs E hr
  have sc := sc_are_ties
  exact pfs_cons (pfs_if (pft_W (pfw_or (pft_not (pft_B (pf_isinst .tuple (pf_var 1) (T.free 92) (T.free 91) bb_tuple))) (pfw_or1 (pft_not (pft_B (pf_blt (fb_all rfl) (T.free 95) bb_all (pf_cons (pf_lc (own := [("tie", 2)]) rfl sc.nd (pfi_seq (pf_var 1)) (blkOk_by (by rfl)) (fun s H C cl fp => pfg_nm sc.nd) (fun s H C cl fp => pfts_nil) (fun s H C cl fp => pf_callD (ok_is_tie T) (hr.mono (by decide)) pass0At (pf_cons (pf_var 0) (pf_cons (pf_var 2) (pf_nil))))) (pf_nil)))))))) (pfs_one (pfs_ret (pf_bl))) (pfs_nil))
    (pfs_one (pfs_ret (pf_callD (ok_is_rising T) (hr.mono (by decide)) (fun σ => passAt (takes_of rfl rfl rfl rfl) σ) (pf_cons (pf_var 1) (pf_nil)))))
theorem sc_is_web : FnScope ["thing"] ["thing"] (defScope s_is_web) := ⟨rfl, rfl, rfl, by decide +kernel, rfl, by decide +kernel, by decide +kernel⟩
theorem ok_is_web (T : TxOkQ fa fn exl K mg base) : Df P w K mg base "is_web" 5 ["thing"] [false] m_is_web := by
  refine dfOk (bd := b_is_web) T.toTxOk 9 9 sc_is_web (by decide) (fun _ _ _ _ _ _ us hl => match us, hl with | [_], _ => rfl) ?_
  intro f cdv A outer s H vs E hr
  have sc := sc_is_web
  exact pfs_cons (pfs_if (pft_W (pfw_or (pft_not (pft_B (pf_isinst .tuple (pf_var 0) (T.free 92) (T.free 91) bb_tuple))) (pfw_or1 (pft_cmp (fop_ne hr.u64) (pf_blt fb_len (T.free 89) bb_len (pf_cons (pf_var 0) (pf_nil))) (pf_int) (nomark _))))) (pfs_one (pfs_ret (pf_bl))) (pfs_nil))
    (pfs_one (pfs_ret (pf_and (pf_callD (ok_is_below T) (hr.mono (by decide)) (fun σ => passAt (takes_of rfl rfl rfl rfl) σ) (pf_cons (pf_ix fix_d (pf_var 0) (pf_int)) (pf_cons (pf_op fop_add (pf_globI (T.int 88)) (pf_int)) (pf_nil)))) (pf_one (pf_callD (ok_are_ties T) (hr.mono (by decide)) (fun σ => passAt (takes_of rfl rfl rfl rfl) σ) (pf_cons (pf_ix fix_d (pf_var 0) (pf_int)) (pf_cons (pf_ix fix_d (pf_var 0) (pf_int)) (pf_nil))))))))
theorem sc_need_web : FnScope ["web"] ["web"] (defScope s_need_web) := ⟨rfl, rfl, rfl, by decide +kernel, rfl, by decide +kernel, by decide +kernel⟩
theorem ok_need_web (T : TxOkQ fa fn exl K mg base) : Df P w K mg base "need_web" 6 ["web"] [false] m_need_web := by
  refine dfOk (bd := b_need_web) T.toTxOk 10 10 sc_need_web (by decide) (fun _ _ _ _ _ _ us hl => match us, hl with | [_], _ => rfl) ?_
  intro f cdv A outer s H vs E hr
  have sc := sc_need_web
  exact pfs_one (pfs_if (pft_not (pft_B (pf_callD (ok_is_web T) (hr.mono (by decide)) (fun σ => passAt (takes_of rfl rfl rfl rfl) σ) (pf_cons (pf_var 0) (pf_nil))))) (pfs_one (pfs_raise rfl (takes_of rfl rfl rfl rfl) (T.glo 70) (T.exc 71))) (pfs_nil))
theorem sc_full_from : FnScope ["rows", "tied", "chosen", "left", "shut", "found", "at", "place", "later", "one", "ahead"] ["rows", "tied", "chosen", "left", "shut"] (defScope s_full_from) := ⟨rfl, rfl, rfl, by decide +kernel, rfl, by decide +kernel, by decide +kernel⟩
theorem ok_full_from (T : TxOkQ fa fn exl K mg base) : ∀ n : Nat, Df P w K mg base "full_from" (0 + n) ["rows", "tied", "chosen", "left", "shut"] [false, false, false, false, false] (m_full_from n)
  | 0 => dfNone T.toTxOk 11 11 (fun _ _ _ _ _ _ us hl => match us, hl with | [_, _, _, _, _], _ => rfl)
  | n + 1 => by
    have ih := ok_full_from T n
    refine dfOk (k := 0 + n) (bd := b_full_from (m_full_from n)) T.toTxOk 11 11 sc_full_from (by decide) (fun _ _ _ _ _ _ us hl => match us, hl with | [_, _, _, _, _], _ => rfl) ?_
    intro f cdv A outer s H vs E hr
    have sc := sc_full_from
    exact pfs_cons (pfs_if (pft_W (pfw_and (pft_cmp (fop_eq hr.u64) (pf_var 3) (pf_lst (pf_nil)) (nomark _)) (pfw_and1 (pft_cmp (fop_eq hr.u64) (pf_var 4) (pf_lst (pf_nil)) (nomark _))))) (pfs_one (pfs_ret (pf_lst (pf_cons (pf_var 2) (pf_nil))))) (pfs_nil))
        (pfs_cons (pfs_set (i := 5) sc.nd (pf_lst (pf_nil)))
        (pfs_cons (pfs_for (ws := [6, 7]) (wp := [6, 7, 8, 9, 10]) (passes_of rfl) rfl (pfi_enum rfl (T.free 96) (pf_cons (pf_var 3) pf_nil)) (pfg_tup rfl (pfgs_cons (pfg_nm sc.nd) (pfgs_cons (pfg_nm sc.nd) (pfgs_nil))) rfl rfl tp2) (pfs_cons (pfs_setLc (own := [("one", 9)]) rfl sc.nd rfl (pfi_seq (pf_sl (pf_var 3) (pfo_some (pf_op fop_add (pf_var 6) (pf_int))) (pfo_none))) (blkOk_by (by rfl)) (fun s H C cl fp => pfg_nm sc.nd) (fun s H C cl fp => pfts_one (pft_cmp (fop_eq hr.u64) (pf_ix fix_d (pf_ix fix_d (pf_var 0) (pf_var 7)) (pf_var 9)) (pf_var 1) (nomark _))) (fun s H C cl fp => pf_var 9))
        (pfs_cons (pfs_setLc (own := [("one", 9)]) rfl sc.nd rfl (pfi_seq (pf_op fop_add (pf_var 4) (pf_sl (pf_var 3) (pfo_none) (pfo_some (pf_var 6))))) (blkOk_by (by rfl)) (fun s H C cl fp => pfg_nm sc.nd) (fun s H C cl fp => pfts_one (pft_cmp (fop_eq hr.u64) (pf_ix fix_d (pf_ix fix_d (pf_var 0) (pf_var 7)) (pf_var 9)) (pf_var 1) (nomark _))) (fun s H C cl fp => pf_var 9))
        (pfs_one (pfs_expr (pf_lm 5 PySem.F.slot_list_extend PySem.F.type_list_extend fm_extend (pf_cons (pf_callD ih (hr.mono (Nat.le_refl _)) (fun σ => passAt (takes_of rfl rfl rfl rfl) σ) (pf_cons (pf_var 0) (pf_cons (pf_var 1) (pf_cons (pf_op fop_add (pf_var 2) (pf_tup (pf_cons (pf_var 7) (pf_nil)))) (pf_cons (pf_var 8) (pf_cons (pf_var 10) (pf_nil))))))) (pf_nil)) (pv 5)))))))
        (pfs_one (pfs_ret (pf_var 5)))))
theorem sc_all_places : FnScope ["web"] ["web"] (defScope s_all_places) := ⟨rfl, rfl, rfl, by decide +kernel, rfl, by decide +kernel, by decide +kernel⟩
theorem ok_all_places (T : TxOkQ fa fn exl K mg base) : Df P w K mg base "all_places" 1 ["web"] [false] m_all_places := by
  refine dfOk (bd := b_all_places) T.toTxOk 12 12 sc_all_places (by decide) (fun _ _ _ _ _ _ us hl => match us, hl with | [_], _ => rfl) ?_
  intro f cdv A outer s H vs E hr
  have sc := sc_all_places
  exact pfs_one (pfs_ret (pf_tRg1 rfl (T.free 91) (T.free 90) (pf_ix fix_d (pf_var 0) (pf_int))))
theorem sc_rows_of : FnScope ["web", "found", "place", "one", "other"] ["web"] (defScope s_rows_of) := ⟨rfl, rfl, rfl, by decide +kernel, rfl, by decide +kernel, by decide +kernel⟩
theorem ok_rows_of (T : TxOkQ fa fn exl K mg base) : Df P w K mg base "rows_of" 2 ["web"] [false] m_rows_of := by
  refine dfOk (bd := b_rows_of) T.toTxOk 13 13 sc_rows_of (by decide) (fun _ _ _ _ _ _ us hl => match us, hl with | [_], _ => rfl) ?_
  intro f cdv A outer s H vs E hr
  have sc := sc_rows_of
  exact pfs_cons (pfs_setLcL (own := [("place", 2)]) rfl sc.nd rfl (pfi_seq (pf_callD (ok_all_places T) (hr.mono (by decide)) (fun σ => passAt (takes_of rfl rfl rfl rfl) σ) (pf_cons (pf_var 0) (pf_nil)))) (blkOk_by (by rfl)) (fun s H C cl fp => pfg_nm sc.nd) (fun s H C cl fp => pfts_nil) (fun s H C cl fp => pf_op fop_mul (pf_lst (pf_cons (pf_bl) (pf_nil))) (pf_ix fix_d (pf_var 0) (pf_int))))
    (pfs_cons (pfs_for (ws := [3, 4]) (wp := [3, 4]) (passes_of rfl) rfl (pfi_seq (pf_ix fix_d (pf_var 0) (pf_int))) (pfg_tup rfl (pfgs_cons (pfg_nm sc.nd) (pfgs_cons (pfg_nm sc.nd) (pfgs_nil))) rfl rfl tp2) (pfs_cons (pfs_setLL 1 3 4 (pf_bl) (pv 1) (pv 3) (pv 4))
    (pfs_one (pfs_setLL 1 4 3 (pf_bl) (pv 1) (pv 4) (pv 3)))))
    (pfs_one (pfs_ret (pf_var 1))))
theorem sc_full_apart_in : FnScope ["web"] ["web"] (defScope s_full_apart_in) := ⟨rfl, rfl, rfl, by decide +kernel, rfl, by decide +kernel, by decide +kernel⟩
theorem ok_full_apart_in (T : TxOkQ fa fn exl K mg base) : Df P w K mg base "full_apart_in" 17 ["web"] [false] m_full_apart_in := by
  refine dfOk (bd := b_full_apart_in) T.toTxOk 14 14 sc_full_apart_in (by decide) (fun _ _ _ _ _ _ us hl => match us, hl with | [_], _ => rfl) ?_
  intro f cdv A outer s H vs E hr
  have sc := sc_full_apart_in
  exact pfs_one (pfs_ret (pf_blt fb_sorted (T.free 98) bb_sorted (pf_cons (pf_callD (ok_full_from T 16) (hr.mono (by decide)) (fun σ => passAt (takes_of rfl rfl rfl rfl) σ) (pf_cons (pf_callD (ok_rows_of T) (hr.mono (by decide)) (fun σ => passAt (takes_of rfl rfl rfl rfl) σ) (pf_cons (pf_var 0) (pf_nil))) (pf_cons (pf_bl) (pf_cons (pf_tup (pf_nil)) (pf_cons (pf_bty fb_list (T.free 97) bb_list (pf_cons (pf_callD (ok_all_places T) (hr.mono (by decide)) (fun σ => passAt (takes_of rfl rfl rfl rfl) σ) (pf_cons (pf_var 0) (pf_nil))) (pf_nil))) (pf_cons (pf_lst (pf_nil)) (pf_nil))))))) (pf_nil))))
theorem sc_Rows_init : FnScope ["self", "sets", "wants", "at", "some", "row", "place", "other", "want"] ["self", "sets", "wants"] (defScope s_Rows_init) := ⟨rfl, rfl, rfl, by decide +kernel, rfl, by decide +kernel, by decide +kernel⟩
theorem ok_Rows_init (T : TxOkQ fa fn exl K mg base) : Dm P w K mg base "Rows" "__init__" 1 ["self", "sets", "wants"] [true, false, false] m_Rows_init := by
  refine dmOk (bd := b_Rows_init) T.toTxOk 15 sc_Rows_init (by decide) (fun _ _ _ _ _ _ us hl => match us, hl with | [_, _, _], _ => rfl) ?_
  intro f cdv A outer s H vs E hr
  have sc := sc_Rows_init
  exact pfs_cons (pfs_setF (c := "Rows") 0 (T.cls 35) (T.noat 36) (pf_blt fb_len (T.free 89) bb_len (pf_cons (pf_var 2) (pf_nil))) (pv 0))
    (pfs_cons (pfs_setF (c := "Rows") 0 (T.cls 35) (T.noat 37) (pf_blt fb_len (T.free 89) bb_len (pf_cons (pf_var 1) (pf_nil))) (pv 0))
    (pfs_cons (pfs_setF (c := "Rows") 0 (T.cls 35) (T.noat 38) (pf_int) (pv 0))
    (pfs_cons (pfs_setF (c := "Rows") 0 (T.cls 35) (T.noat 39) (pf_lst (pf_nil)) (pv 0))
    (pfs_cons (pfs_for (ws := [3, 4]) (wp := [3, 4, 5, 6, 7]) (passes_of rfl) rfl (pfi_enum rfl (T.free 96) (pf_cons (pf_var 1) pf_nil)) (pfg_tup rfl (pfgs_cons (pfg_nm sc.nd) (pfgs_cons (pfg_nm sc.nd) (pfgs_nil))) rfl rfl tp2) (pfs_cons (pfs_setLc (own := [("place", 6)]) rfl sc.nd rfl (pfi_range1 rfl (T.free 90) (pf_cons (pf_fld (c := "Rows") 0 (T.cls 35) (T.noat 36) (pv 0)) (pf_nil))) (blkOk_by (by rfl)) (fun s H C cl fp => pfg_nm sc.nd) (fun s H C cl fp => pfts_nil) (fun s H C cl fp => pf_bty fb_int (T.free 93) bb_int (pf_cons (pf_cmp (fop_in hr.u65) (pf_var 6) (pf_var 4) (by rfl)) (pf_nil))))
    (pfs_cons (pfs_set (i := 5) sc.nd (pf_op fop_add (pf_op fop_add (pf_var 5) (pf_lc (own := [("other", 7)]) rfl sc.nd (pfi_range1 rfl (T.free 90) (pf_cons (pf_fld (c := "Rows") 0 (T.cls 35) (T.noat 37) (pv 0)) (pf_nil))) (blkOk_by (by rfl)) (fun s H C cl fp => pfg_nm sc.nd) (fun s H C cl fp => pfts_nil) (fun s H C cl fp => pf_bty fb_int (T.free 93) bb_int (pf_cons (pf_cmp (fop_eq hr.u64) (pf_var 7) (pf_var 3) (nomark _)) (pf_nil))))) (pf_lst (pf_cons (pf_int) (pf_nil)))))
    (pfs_one (pfs_expr (pf_lmF (c := "Rows") 0 5 (T.cls 35) (T.noat 39) PySem.F.slot_list_append PySem.F.type_list_append fm_append (pv 0) (pv 5)))))))
    (pfs_cons (pfs_setF (c := "Rows") 0 (T.cls 35) (T.noat 40) (pf_op fop_add (pf_lc (own := [("want", 8)]) rfl sc.nd (pfi_seq (pf_var 2)) (blkOk_by (by rfl)) (fun s H C cl fp => pfg_nm sc.nd) (fun s H C cl fp => pfts_nil) (fun s H C cl fp => pf_un fun_neg (pf_var 8))) (pf_op fop_mul (pf_lst (pf_cons (pf_int) (pf_nil))) (pf_op fop_add (pf_fld (c := "Rows") 0 (T.cls 35) (T.noat 37) (pv 0)) (pf_int)))) (pv 0))
    (pfs_one (pfs_setF (c := "Rows") 0 (T.cls 35) (T.noat 41) (pf_lc (own := [("at", 3)]) rfl sc.nd (pfi_range1 rfl (T.free 90) (pf_cons (pf_fld (c := "Rows") 0 (T.cls 35) (T.noat 37) (pv 0)) (pf_nil))) (blkOk_by (by rfl)) (fun s H C cl fp => pfg_nm sc.nd) (fun s H C cl fp => pfts_nil) (fun s H C cl fp => pf_op fop_add (pf_fld (c := "Rows") 0 (T.cls 35) (T.noat 36) (pv 0)) (pf_var 3))) (pv 0))))))))
theorem sc_Rows_entering : FnScope ["self", "column"] ["self"] (defScope s_Rows_entering) := ⟨rfl, rfl, rfl, by decide +kernel, rfl, by decide +kernel, by decide +kernel⟩
theorem ok_Rows_entering (T : TxOkQ fa fn exl K mg base) : Dm P w K mg base "Rows" "entering" 1 ["self"] [false] m_Rows_entering := by
  refine dmOk (bd := b_Rows_entering) T.toTxOk 16 sc_Rows_entering (by decide) (fun _ _ _ _ _ _ us hl => match us, hl with | [_], _ => rfl) ?_
  intro f cdv A outer s H vs E hr
  have sc := sc_Rows_entering
  exact pfs_cons (pfs_for (ws := [1]) (wp := [1]) (passes_of rfl) rfl (pfi_range1 rfl (T.free 90) (pf_cons (pf_op fop_add (pf_fld (c := "Rows") 0 (T.cls 35) (T.noat 36) (pv 0)) (pf_fld (c := "Rows") 0 (T.cls 35) (T.noat 37) (pv 0))) (pf_nil))) (pfg_nm sc.nd) (pfs_one (pfs_if (pft_cmp (fop_lt hr.units0) (pf_ix fix_d (pf_fld (c := "Rows") 0 (T.cls 35) (T.noat 40) (pv 0)) (pf_var 1)) (pf_int) (nomark _)) (pfs_one (pfs_ret (pf_var 1))) (pfs_nil))))
    (pfs_one (pfs_ret (pf_non)))
theorem sc_Rows_cleared : FnScope ["self", "row", "lead", "column", "by", "much", "number", "other"] ["self", "row", "lead", "column"] (defScope s_Rows_cleared) := ⟨rfl, rfl, rfl, by decide +kernel, rfl, by decide +kernel, by decide +kernel⟩
theorem ok_Rows_cleared (T : TxOkQ fa fn exl K mg base) : Dm P w K mg base "Rows" "cleared" 1 ["self", "row", "lead", "column"] [false, false, false, false] m_Rows_cleared := by
  refine dmOk (bd := b_Rows_cleared) T.toTxOk 17 sc_Rows_cleared (by decide) (fun _ _ _ _ _ _ us hl => match us, hl with | [_, _, _, _], _ => rfl) ?_
  intro f cdv A outer s H vs E hr
  have sc := sc_Rows_cleared
  exact pfs_cons (pfs_set (i := 4) sc.nd (pf_ix fix_d (pf_var 2) (pf_var 3)))
    (pfs_cons (pfs_set (i := 5) sc.nd (pf_ix fix_d (pf_var 1) (pf_var 3)))
    (pfs_one (pfs_ret (pf_lc (own := [("number", 6), ("other", 7)]) rfl sc.nd (pfi_zip rfl (T.free 99) (pf_cons (pf_var 1) (pf_cons (pf_var 2) (pf_nil)))) (blkOk_by (by rfl)) (fun s H C cl fp => pfg_tup rfl (pfgs_cons (pfg_nm sc.nd) (pfgs_cons (pfg_nm sc.nd) (pfgs_nil))) rfl rfl tp2) (fun s H C cl fp => pfts_nil) (fun s H C cl fp => pf_op fop_fdiv (pf_op fop_sub (pf_op fop_mul (pf_var 6) (pf_var 4)) (pf_op fop_mul (pf_var 5) (pf_var 7))) (pf_fld (c := "Rows") 0 (T.cls 35) (T.noat 38) (pv 0)))))))
theorem sc_Rows_turn : FnScope ["self", "at", "column", "lead", "other"] ["self", "at", "column"] (defScope s_Rows_turn) := ⟨rfl, rfl, rfl, by decide +kernel, rfl, by decide +kernel, by decide +kernel⟩
theorem ok_Rows_turn (T : TxOkQ fa fn exl K mg base) : Dm P w K mg base "Rows" "turn" 2 ["self", "at", "column"] [true, false, false] m_Rows_turn := by
  refine dmOk (bd := b_Rows_turn) T.toTxOk 18 sc_Rows_turn (by decide) (fun _ _ _ _ _ _ us hl => match us, hl with | [_, _, _], _ => rfl) ?_
  intro f cdv A outer s H vs E hr
  have sc := sc_Rows_turn
  exact pfs_cons (pfs_set (i := 3) sc.nd (pf_fldIx (c := "Rows") 0 1 (T.cls 35) (T.noat 39) (pv 0) (pv 1)))
    (pfs_cons (pfs_for (ws := [4]) (wp := [4]) (passes_of rfl) rfl (pfi_range1 rfl (T.free 90) (pf_cons (pf_fld (c := "Rows") 0 (T.cls 35) (T.noat 37) (pv 0)) (pf_nil))) (pfg_nm sc.nd) (pfs_one (pfs_if (pft_cmp (fop_ne hr.u64) (pf_var 4) (pf_var 1) (nomark _)) (pfs_one (pfs_setFI (c := "Rows") 0 4 (T.cls 35) (T.noat 39) (pf_bor (pf_callM 0 (ok_Rows_cleared T) (T.cls 35) (T.meth 42) (hr.mono (by decide)) (fun σ => passAt (takes_of rfl rfl rfl rfl) σ) (pv 0) (pf_cons (pf_ix fix_d (pf_fld (c := "Rows") 0 (T.cls 35) (T.noat 39) (pv 0)) (pf_var 4)) (pf_cons (pf_var 3) (pf_cons (pf_var 2) (pf_nil)))))) (pv 0) (pv 4))) (pfs_nil))))
    (pfs_cons (pfs_setF (c := "Rows") 0 (T.cls 35) (T.noat 40) (pf_bor (pf_callM 0 (ok_Rows_cleared T) (T.cls 35) (T.meth 42) (hr.mono (by decide)) (fun σ => passAt (takes_of rfl rfl rfl rfl) σ) (pv 0) (pf_cons (pf_fld (c := "Rows") 0 (T.cls 35) (T.noat 40) (pv 0)) (pf_cons (pf_var 3) (pf_cons (pf_var 2) (pf_nil)))))) (pv 0))
    (pfs_cons (pfs_setF (c := "Rows") 0 (T.cls 35) (T.noat 38) (pf_ix fix_d (pf_var 3) (pf_var 2)) (pv 0))
    (pfs_one (pfs_setFI (c := "Rows") 0 1 (T.cls 35) (T.noat 41) (pf_var 2) (pv 0) (pv 1))))))
theorem sc_Rows_bounds_more : FnScope ["self", "one", "other", "column", "mine", "yours"] ["self", "one", "other", "column"] (defScope s_Rows_bounds_more) := ⟨rfl, rfl, rfl, by decide +kernel, rfl, by decide +kernel, by decide +kernel⟩
theorem ok_Rows_bounds_more (T : TxOkQ fa fn exl K mg base) : Dm P w K mg base "Rows" "bounds_more" 1 ["self", "one", "other", "column"] [false, false, false, false] m_Rows_bounds_more := by
  refine dmOk (bd := b_Rows_bounds_more) T.toTxOk 19 sc_Rows_bounds_more (by decide) (fun _ _ _ _ _ _ us hl => match us, hl with | [_, _, _, _], _ => rfl) ?_
  intro f cdv A outer s H vs E hr
  have sc := sc_Rows_bounds_more
  exact pfs_cons (pfs_set (i := 4) sc.nd (pf_op fop_mul (pf_ix fix_d (pf_ix fix_d (pf_fld (c := "Rows") 0 (T.cls 35) (T.noat 39) (pv 0)) (pf_var 1)) (pf_un fun_neg (pf_int))) (pf_ix fix_d (pf_ix fix_d (pf_fld (c := "Rows") 0 (T.cls 35) (T.noat 39) (pv 0)) (pf_var 2)) (pf_var 3))))
    (pfs_cons (pfs_set (i := 5) sc.nd (pf_op fop_mul (pf_ix fix_d (pf_ix fix_d (pf_fld (c := "Rows") 0 (T.cls 35) (T.noat 39) (pv 0)) (pf_var 2)) (pf_un fun_neg (pf_int))) (pf_ix fix_d (pf_ix fix_d (pf_fld (c := "Rows") 0 (T.cls 35) (T.noat 39) (pv 0)) (pf_var 1)) (pf_var 3))))
    (pfs_cons (pfs_if (pft_cmp (fop_ne hr.u64) (pf_var 4) (pf_var 5) (nomark _)) (pfs_one (pfs_ret (pf_cmp (fop_lt hr.units0) (pf_var 4) (pf_var 5) (nomark _)))) (pfs_nil))
    (pfs_one (pfs_ret (pf_cmp (fop_lt hr.units0) (pf_ix fix_d (pf_fld (c := "Rows") 0 (T.cls 35) (T.noat 41) (pv 0)) (pf_var 1)) (pf_ix fix_d (pf_fld (c := "Rows") 0 (T.cls 35) (T.noat 41) (pv 0)) (pf_var 2)) (nomark _))))))
theorem sc_Rows_leaving : FnScope ["self", "column", "found", "at", "row"] ["self", "column"] (defScope s_Rows_leaving) := ⟨rfl, rfl, rfl, by decide +kernel, rfl, by decide +kernel, by decide +kernel⟩
theorem ok_Rows_leaving (T : TxOkQ fa fn exl K mg base) : Dm P w K mg base "Rows" "leaving" 2 ["self", "column"] [false, false] m_Rows_leaving := by
  refine dmOk (bd := b_Rows_leaving) T.toTxOk 20 sc_Rows_leaving (by decide) (fun _ _ _ _ _ _ us hl => match us, hl with | [_, _], _ => rfl) ?_
  intro f cdv A outer s H vs E hr
  have sc := sc_Rows_leaving
  exact pfs_cons (pfs_set (i := 2) sc.nd (pf_non))
    (pfs_cons (pfs_for (ws := [3, 4]) (wp := [3, 4]) (passes_of rfl) rfl (pfi_enum rfl (T.free 96) (pf_cons (pf_fld (c := "Rows") 0 (T.cls 35) (T.noat 39) (pv 0)) pf_nil)) (pfg_tup rfl (pfgs_cons (pfg_nm sc.nd) (pfgs_cons (pfg_nm sc.nd) (pfgs_nil))) rfl rfl tp2) (pfs_one (pfs_if (pft_W (pfw_and (pft_cmp fop_gt (pf_ix fix_d (pf_var 4) (pf_var 1)) (pf_int) (nomark _)) (pfw_and1 (pft_W (pfw_or (pft_cmp fop_is (pf_var 2) (pf_non) (nomark _)) (pfw_or1 (pft_B (pf_callM 0 (ok_Rows_bounds_more T) (T.cls 35) (T.meth 43) (hr.mono (by decide)) (fun σ => passAt (takes_of rfl rfl rfl rfl) σ) (pv 0) (pf_cons (pf_var 3) (pf_cons (pf_var 2) (pf_cons (pf_var 1) (pf_nil)))))))))))) (pfs_one (pfs_set (i := 2) sc.nd (pf_var 3))) (pfs_nil))))
    (pfs_one (pfs_ret (pf_var 2))))
theorem sc_Rows_finish : FnScope ["self", "column"] ["self"] (defScope s_Rows_finish) := ⟨rfl, rfl, rfl, by decide +kernel, rfl, by decide +kernel, by decide +kernel⟩
theorem ok_Rows_finish (T : TxOkQ fa fn exl K mg base) : Dm P w K mg base "Rows" "finish" 3 ["self"] [true] m_Rows_finish := by
  refine dmOk (bd := b_Rows_finish) T.toTxOk 21 sc_Rows_finish (by decide) (fun _ _ _ _ _ _ us hl => match us, hl with | [_], _ => rfl) ?_
  intro f cdv A outer s H vs E hr
  have sc := sc_Rows_finish
  exact pfs_cons (pfs_set (i := 1) sc.nd (pf_bor (pf_callM0 0 (ok_Rows_entering T) (T.cls 35) (T.meth 44) (hr.mono (by decide)) (fun σ => passAt (takes_of rfl rfl rfl rfl) σ) (pv 0))))
    (pfs_one (pfs_while (wp := []) (passes_of rfl) (pft_cmp fop_isNot (pf_var 1) (pf_non) (nomark _)) (pfs_cons (pfs_expr (pf_callM 0 (ok_Rows_turn T) (T.cls 35) (T.meth 45) (hr.mono (by decide)) (fun σ => passAt (takes_of rfl rfl rfl rfl) σ) (pv 0) (pf_cons (pf_bor (pf_callM 0 (ok_Rows_leaving T) (T.cls 35) (T.meth 46) (hr.mono (by decide)) (fun σ => passAt (takes_of rfl rfl rfl rfl) σ) (pv 0) (pf_cons (pf_var 1) (pf_nil)))) (pf_cons (pf_var 1) (pf_nil)))))
    (pfs_one (pfs_set (i := 1) sc.nd (pf_bor (pf_callM0 0 (ok_Rows_entering T) (T.cls 35) (T.meth 44) (hr.mono (by decide)) (fun σ => passAt (takes_of rfl rfl rfl rfl) σ) (pv 0))))))))
theorem sc_divisor : FnScope ["one", "other"] ["one", "other"] (defScope s_divisor) := ⟨rfl, rfl, rfl, by decide +kernel, rfl, by decide +kernel, by decide +kernel⟩
theorem ok_divisor (T : TxOkQ fa fn exl K mg base) : Df P w K mg base "divisor" 1 ["one", "other"] [false, false] m_divisor := by
  refine dfOk (bd := b_divisor) T.toTxOk 22 15 sc_divisor (by decide) (fun _ _ _ _ _ _ us hl => match us, hl with | [_, _], _ => rfl) ?_
  intro f cdv A outer s H vs E hr
  have sc := sc_divisor
  exact pfs_cons (pfs_set (i := 0) sc.nd (pf_blt fb_abs (T.free 100) bb_abs (pf_cons (pf_var 0) (pf_nil))))
    (pfs_cons (pfs_set (i := 1) sc.nd (pf_blt fb_abs (T.free 100) bb_abs (pf_cons (pf_var 1) (pf_nil))))
    (pfs_cons (pfs_while (wp := []) (passes_of rfl) (pft_cmp fop_gt (pf_var 1) (pf_int) (nomark _)) (pfs_one (pfs_par (i := 0) (j := 1) rfl sc.nd (pf_cons (pf_var 1) (pf_cons (pf_op fop_mod (pf_var 0) (pf_var 1)) (pf_nil))))))
    (pfs_one (pfs_ret (pf_var 0)))))
theorem sc_lowest : FnScope ["a", "b", "common"] ["a", "b"] (defScope s_lowest) := ⟨rfl, rfl, rfl, by decide +kernel, rfl, by decide +kernel, by decide +kernel⟩
theorem ok_lowest (T : TxOkQ fa fn exl K mg base) : Df P w K mg base "lowest" 2 ["a", "b"] [false, false] m_lowest := by
  refine dfOk (bd := b_lowest) T.toTxOk 23 16 sc_lowest (by decide) (fun _ _ _ _ _ _ us hl => match us, hl with | [_, _], _ => rfl) ?_
  intro f cdv A outer s H vs E hr
  have sc := sc_lowest
  exact pfs_cons (pfs_set (i := 2) sc.nd (pf_callD (ok_divisor T) (hr.mono (by decide)) (fun σ => passAt (takes_of rfl rfl rfl rfl) σ) (pf_cons (pf_var 0) (pf_cons (pf_var 1) (pf_nil)))))
    (pfs_one (pfs_ret (pf_tup (pf_cons (pf_op fop_fdiv (pf_var 0) (pf_var 2)) (pf_cons (pf_op fop_fdiv (pf_var 1) (pf_var 2)) (pf_nil))))))
theorem sc_Rows_share : FnScope ["self", "at"] ["self", "at"] (defScope s_Rows_share) := ⟨rfl, rfl, rfl, by decide +kernel, rfl, by decide +kernel, by decide +kernel⟩
theorem ok_Rows_share (T : TxOkQ fa fn exl K mg base) : Dm P w K mg base "Rows" "share" 3 ["self", "at"] [false, false] m_Rows_share := by
  refine dmOk (bd := b_Rows_share) T.toTxOk 24 sc_Rows_share (by decide) (fun _ _ _ _ _ _ us hl => match us, hl with | [_, _], _ => rfl) ?_
  intro f cdv A outer s H vs E hr
  have sc := sc_Rows_share
  exact pfs_one (pfs_ret (pf_callD (ok_lowest T) (hr.mono (by decide)) (fun σ => passAt (takes_of rfl rfl rfl rfl) σ) (pf_cons (pf_ix fix_d (pf_fld (c := "Rows") 0 (T.cls 35) (T.noat 40) (pv 0)) (pf_op fop_add (pf_fld (c := "Rows") 0 (T.cls 35) (T.noat 36) (pv 0)) (pf_var 1))) (pf_cons (pf_fld (c := "Rows") 0 (T.cls 35) (T.noat 38) (pv 0)) (pf_nil)))))
theorem sc_plus : FnScope ["one", "other"] ["one", "other"] (defScope s_plus) := ⟨rfl, rfl, rfl, by decide +kernel, rfl, by decide +kernel, by decide +kernel⟩
theorem ok_plus (T : TxOkQ fa fn exl K mg base) : Df P w K mg base "plus" 3 ["one", "other"] [false, false] m_plus := by
  refine dfOk (bd := b_plus) T.toTxOk 25 17 sc_plus (by decide) (fun _ _ _ _ _ _ us hl => match us, hl with | [_, _], _ => rfl) ?_
  intro f cdv A outer s H vs E hr
  have sc := sc_plus
  exact pfs_one (pfs_ret (pf_callD (ok_lowest T) (hr.mono (by decide)) (fun σ => passAt (takes_of rfl rfl rfl rfl) σ) (pf_cons (pf_op fop_add (pf_op fop_mul (pf_ix fix_d (pf_var 0) (pf_int)) (pf_ix fix_d (pf_var 1) (pf_int))) (pf_op fop_mul (pf_ix fix_d (pf_var 1) (pf_int)) (pf_ix fix_d (pf_var 0) (pf_int)))) (pf_cons (pf_op fop_mul (pf_ix fix_d (pf_var 0) (pf_int)) (pf_ix fix_d (pf_var 1) (pf_int))) (pf_nil)))))
theorem sc_sum_of_fractions : FnScope ["some", "found", "one"] ["some"] (defScope s_sum_of_fractions) := ⟨rfl, rfl, rfl, by decide +kernel, rfl, by decide +kernel, by decide +kernel⟩
theorem ok_sum_of_fractions (T : TxOkQ fa fn exl K mg base) : Df P w K mg base "sum_of_fractions" 4 ["some"] [false] m_sum_of_fractions := by
  refine dfOkA (bd := b_sum_of_fractions) T.toTxOk 26 18 sc_sum_of_fractions (by decide) (fun _ _ _ _ _ _ us hl => match us, hl with | [_], _ => rfl) ?_
  intro f cdv A outer s H vs E hr
  have sc := sc_sum_of_fractions
  exact pfs_cons (pfs_set (i := 1) sc.nd (pf_tup (pf_cons (pf_int) (pf_cons (pf_int) (pf_nil)))))
    (pfs_cons (pfs_for (ws := [2]) (wp := [2]) (passes_of rfl) rfl (pfi_seq (pf_var 0)) (pfg_nm sc.nd) (pfs_one (pfs_set (i := 1) sc.nd (pf_callD (ok_plus T) (hr.mono (by decide)) (fun σ => passAt (takes_of rfl rfl rfl rfl) σ) (pf_cons (pf_var 1) (pf_cons (pf_var 2) (pf_nil)))))))
    (pfs_one (pfs_ret (pf_var 1))))
theorem sc_Rows_prices : FnScope ["self", "found", "place", "at", "column"] ["self"] (defScope s_Rows_prices) := ⟨rfl, rfl, rfl, by decide +kernel, rfl, by decide +kernel, by decide +kernel⟩
theorem ok_Rows_prices (T : TxOkQ fa fn exl K mg base) : Dm P w K mg base "Rows" "prices" 3 ["self"] [false] m_Rows_prices := by
  refine dmOk (bd := b_Rows_prices) T.toTxOk 27 sc_Rows_prices (by decide) (fun _ _ _ _ _ _ us hl => match us, hl with | [_], _ => rfl) ?_
  intro f cdv A outer s H vs E hr
  have sc := sc_Rows_prices
  exact pfs_cons (pfs_setLc (own := [("place", 2)]) rfl sc.nd rfl (pfi_range1 rfl (T.free 90) (pf_cons (pf_fld (c := "Rows") 0 (T.cls 35) (T.noat 36) (pv 0)) (pf_nil))) (blkOk_by (by rfl)) (fun s H C cl fp => pfg_nm sc.nd) (fun s H C cl fp => pfts_nil) (fun s H C cl fp => pf_tup (pf_cons (pf_int) (pf_cons (pf_int) (pf_nil)))))
    (pfs_cons (pfs_for (ws := [3, 4]) (wp := [3, 4]) (passes_of rfl) rfl (pfi_enum rfl (T.free 96) (pf_cons (pf_fld (c := "Rows") 0 (T.cls 35) (T.noat 41) (pv 0)) pf_nil)) (pfg_tup rfl (pfgs_cons (pfg_nm sc.nd) (pfgs_cons (pfg_nm sc.nd) (pfgs_nil))) rfl rfl tp2) (pfs_one (pfs_if (pft_cmp (fop_lt hr.units0) (pf_var 4) (pf_fld (c := "Rows") 0 (T.cls 35) (T.noat 36) (pv 0)) (nomark _)) (pfs_one (pfs_setIx 1 (pf_callD (ok_lowest T) (hr.mono (by decide)) (fun σ => passAt (takes_of rfl rfl rfl rfl) σ) (pf_cons (pf_ix fix_d (pf_ix fix_d (pf_fld (c := "Rows") 0 (T.cls 35) (T.noat 39) (pv 0)) (pf_var 3)) (pf_un fun_neg (pf_int))) (pf_cons (pf_fld (c := "Rows") 0 (T.cls 35) (T.noat 38) (pv 0)) (pf_nil)))) (pv 1) (pf_var 4))) (pfs_nil))))
    (pfs_one (pfs_ret (pf_var 1))))
theorem sc_shares_in : FnScope ["web", "wants", "sets", "rows", "laying", "at", "some", "share"] ["web", "wants"] (defScope s_shares_in) := ⟨rfl, rfl, rfl, by decide +kernel, rfl, by decide +kernel, by decide +kernel⟩
theorem ok_shares_in (T : TxOkQ fa fn exl K mg base) : Df P w K mg base "shares_in" 18 ["web", "wants"] [false, false] m_shares_in := by
  refine dfOk (bd := b_shares_in) T.toTxOk 28 19 sc_shares_in (by decide) (fun _ _ _ _ _ _ us hl => match us, hl with | [_, _], _ => rfl) ?_
  intro f cdv A outer s H vs E hr
  have sc := sc_shares_in
  exact pfs_cons (pfs_set (i := 2) sc.nd (pf_callD (ok_full_apart_in T) (hr.mono (by decide)) (fun σ => passAt (takes_of rfl rfl rfl rfl) σ) (pf_cons (pf_var 0) (pf_nil))))
    (pfs_cons (pfs_set (i := 3) sc.nd (pf_mkC (c := "Rows") (ok_Rows_init T) (T.mkr 47) (T.glo 48) (hr.mono (by decide)) (fun σ => passAt (takes_of rfl rfl rfl rfl) σ) (pf_cons (pf_var 2) (pf_cons (pf_var 1) (pf_nil)))))
    (pfs_cons (pfs_expr (pf_callM0 3 (ok_Rows_finish T) (T.cls 35) (T.meth 49) (hr.mono (by decide)) (fun σ => passAt (takes_of rfl rfl rfl rfl) σ) (pv 3)))
    (pfs_cons (pfs_set (i := 4) sc.nd (pf_lst (pf_nil)))
    (pfs_cons (pfs_for (ws := [5, 6]) (wp := [5, 6, 7]) (passes_of rfl) rfl (pfi_enum rfl (T.free 96) (pf_cons (pf_var 2) pf_nil)) (pfg_tup rfl (pfgs_cons (pfg_nm sc.nd) (pfgs_cons (pfg_nm sc.nd) (pfgs_nil))) rfl rfl tp2) (pfs_cons (pfs_set (i := 7) sc.nd (pf_bor (pf_callM 3 (ok_Rows_share T) (T.cls 35) (T.meth 50) (hr.mono (by decide)) (fun σ => passAt (takes_of rfl rfl rfl rfl) σ) (pv 3) (pf_cons (pf_var 5) (pf_nil)))))
    (pfs_one (pfs_if (pft_cmp (fop_ne hr.u64) (pf_var 7) (pf_tup (pf_cons (pf_int) (pf_cons (pf_int) (pf_nil)))) (nomark _)) (pfs_one (pfs_expr (pf_lm 4 PySem.F.slot_list_append PySem.F.type_list_append fm_append (pf_cons (pf_tup (pf_cons (pf_var 6) (pf_cons (pf_var 7) (pf_nil)))) (pf_nil)) (pv 4)))) (pfs_nil)))))
    (pfs_one (pfs_ret (pf_tup (pf_cons (pf_callD (ok_sum_of_fractions T) (hr.mono (by decide)) (fun σ => passAt (takes_of rfl rfl rfl rfl) σ) (pf_cons (pf_lc (own := [("some", 6), ("share", 7)]) rfl sc.nd (pfi_seq (pf_var 4)) (blkOk_by (by rfl)) (fun s H C cl fp => pfg_tup rfl (pfgs_cons (pfg_nm sc.nd) (pfgs_cons (pfg_nm sc.nd) (pfgs_nil))) rfl rfl tp2) (fun s H C cl fp => pfts_nil) (fun s H C cl fp => pf_var 7)) (pf_nil))) (pf_cons (pf_var 4) (pf_cons (pf_bor (pf_callM0 3 (ok_Rows_prices T) (T.cls 35) (T.meth 51) (hr.mono (by decide)) (fun σ => passAt (takes_of rfl rfl rfl rfl) σ) (pv 3))) (pf_nil)))))))))))
theorem sc_Sharing_init : FnScope ["self", "web"] ["self", "web"] (defScope s_Sharing_init) := ⟨rfl, rfl, rfl, by decide +kernel, rfl, by decide +kernel, by decide +kernel⟩
theorem ok_Sharing_init (T : TxOkQ fa fn exl K mg base) : Dm P w K mg base "Sharing" "__init__" 19 ["self", "web"] [true, false] m_Sharing_init := by
  refine dmOk (bd := b_Sharing_init) T.toTxOk 29 sc_Sharing_init (by decide) (fun _ _ _ _ _ _ us hl => match us, hl with | [_, _], _ => rfl) ?_
  intro f cdv A outer s H vs E hr
  have sc := sc_Sharing_init
  exact pfs_cons (pfs_expr (pf_callD (ok_need_web T) (hr.mono (by decide)) (fun σ => passAt (takes_of rfl rfl rfl rfl) σ) (pf_cons (pf_var 1) (pf_nil))))
    (pfs_cons (pfs_setF (c := "Sharing") 0 (T.cls 52) (T.noat 53) (pf_var 1) (pv 0))
    (pfs_cons (pfs_setF (c := "Sharing") 0 (T.cls 52) (T.noat 54) (pf_int) (pv 0))
    (pfs_one (pfs_unpW (pf_callD (ok_shares_in T) (hr.mono (by decide)) (fun σ => passAt (takes_of rfl rfl rfl rfl) σ) (pf_cons (pf_var 1) (pf_cons (pf_op fop_mul (pf_tup (pf_cons (pf_int) (pf_nil))) (pf_ix fix_d (pf_var 1) (pf_int))) (pf_nil)))) (pw_tup rfl (pws_cons (pw_fld (c := "Sharing") 0 (T.cls 52) (T.noat 57) (pv 0)) (pws_cons (pw_fld (c := "Sharing") 0 (T.cls 52) (T.noat 56) (pv 0)) (pws_cons (pw_fld (c := "Sharing") 0 (T.cls 52) (T.noat 55) (pv 0)) (pws_nil)))) (tpT_cons thru_fld (tpT_cons thru_fld (tpT_cons thru_fld (tpT_nil)))))))))
theorem sc_Sharing_web : FnScope ["self"] ["self"] (defScope s_Sharing_web) := ⟨rfl, rfl, rfl, by decide +kernel, rfl, by decide +kernel, by decide +kernel⟩
theorem ok_Sharing_web (T : TxOkQ fa fn exl K mg base) : Dm P w K mg base "Sharing" "web" 1 ["self"] [true] m_Sharing_web := by
  refine dmOk (bd := b_Sharing_web) T.toTxOk 30 sc_Sharing_web (by decide) (fun _ _ _ _ _ _ us hl => match us, hl with | [_], _ => rfl) ?_
  intro f cdv A outer s H vs E hr
  have sc := sc_Sharing_web
  exact pfs_one (pfs_ret (pf_fld (c := "Sharing") 0 (T.cls 52) (T.noat 53) (pv 0)))
theorem sc_Sharing_value : FnScope ["self"] ["self"] (defScope s_Sharing_value) := ⟨rfl, rfl, rfl, by decide +kernel, rfl, by decide +kernel, by decide +kernel⟩
theorem ok_Sharing_value (T : TxOkQ fa fn exl K mg base) : Dm P w K mg base "Sharing" "value" 1 ["self"] [true] m_Sharing_value := by
  refine dmOk (bd := b_Sharing_value) T.toTxOk 31 sc_Sharing_value (by decide) (fun _ _ _ _ _ _ us hl => match us, hl with | [_], _ => rfl) ?_
  intro f cdv A outer s H vs E hr
  have sc := sc_Sharing_value
  exact pfs_one (pfs_ret (pf_fld (c := "Sharing") 0 (T.cls 52) (T.noat 57) (pv 0)))
theorem sc_Sharing_laying : FnScope ["self"] ["self"] (defScope s_Sharing_laying) := ⟨rfl, rfl, rfl, by decide +kernel, rfl, by decide +kernel, by decide +kernel⟩
theorem ok_Sharing_laying (T : TxOkQ fa fn exl K mg base) : Dm P w K mg base "Sharing" "laying" 1 ["self"] [true] m_Sharing_laying := by
  refine dmOk (bd := b_Sharing_laying) T.toTxOk 32 sc_Sharing_laying (by decide) (fun _ _ _ _ _ _ us hl => match us, hl with | [_], _ => rfl) ?_
  intro f cdv A outer s H vs E hr
  have sc := sc_Sharing_laying
  exact pfs_one (pfs_ret (pf_bty fb_list (T.free 97) bb_list (pf_cons (pf_fld (c := "Sharing") 0 (T.cls 52) (T.noat 56) (pv 0)) (pf_nil))))
theorem sc_Sharing_again : FnScope ["self"] ["self"] (defScope s_Sharing_again) := ⟨rfl, rfl, rfl, by decide +kernel, rfl, by decide +kernel, by decide +kernel⟩
theorem ok_Sharing_again (T : TxOkQ fa fn exl K mg base) : Dm P w K mg base "Sharing" "again" 1 ["self"] [true] m_Sharing_again := by
  refine dmOk (bd := b_Sharing_again) T.toTxOk 33 sc_Sharing_again (by decide) (fun _ _ _ _ _ _ us hl => match us, hl with | [_], _ => rfl) ?_
  intro f cdv A outer s H vs E hr
  have sc := sc_Sharing_again
  exact pfs_one (pfs_ret (pf_fld (c := "Sharing") 0 (T.cls 52) (T.noat 54) (pv 0)))
theorem sc__law_e_told : FnScope ["sharing"] ["sharing"] (defScope s__law_e_told) := ⟨rfl, rfl, rfl, by decide +kernel, rfl, by decide +kernel, by decide +kernel⟩
theorem ok__law_e_told (T : TxOkQ fa fn exl K mg base) : Df P w K mg base "_law_e_told" 2 ["sharing"] [true] m__law_e_told := by
  refine dfOk (bd := b__law_e_told) T.toTxOk 34 20 sc__law_e_told (by decide) (fun _ _ _ _ _ _ us hl => match us, hl with | [_], _ => rfl) ?_
  intro f cdv A outer s H vs E hr
  have sc := sc__law_e_told
  exact pfs_one (pfs_ret (pf_tup (pf_cons (pf_callM0 0 (ok_Sharing_web T) (T.cls 52) (T.meth 61) (hr.mono (by decide)) (fun σ => passAt (takes_of rfl rfl rfl rfl) σ) (pv 0)) (pf_cons (pf_callM0 0 (ok_Sharing_value T) (T.cls 52) (T.meth 60) (hr.mono (by decide)) (fun σ => passAt (takes_of rfl rfl rfl rfl) σ) (pv 0)) (pf_cons (pf_callM0 0 (ok_Sharing_laying T) (T.cls 52) (T.meth 59) (hr.mono (by decide)) (fun σ => passAt (takes_of rfl rfl rfl rfl) σ) (pv 0)) (pf_cons (pf_callM0 0 (ok_Sharing_again T) (T.cls 52) (T.meth 58) (hr.mono (by decide)) (fun σ => passAt (takes_of rfl rfl rfl rfl) σ) (pv 0)) (pf_nil)))))))
theorem sc__law_e_refused : FnScope ["cup", "web", "n", "ties", "far", "rows", "some", "i", "word", "j"] ["cup", "web"] (defScope s__law_e_refused) := ⟨rfl, rfl, rfl, by decide +kernel, rfl, by decide +kernel, by decide +kernel⟩
theorem ok__law_e_refused (T : TxOkQ fa fn exl K mg base) : Df P w K mg base "_law_e_refused" 3 ["cup", "web"] [true, false] m__law_e_refused := by
  refine dfOk (bd := b__law_e_refused) T.toTxOk 35 21 sc__law_e_refused (by decide) (fun _ _ _ _ _ _ us hl => match us, hl with | [_, _], _ => rfl) ?_
  intro f cdv A outer s H vs E hr
  have sc := sc__law_e_refused
  exact pfs_cons (pfs_unp (ws := [2, 3]) (pf_var 1) (pfg_tup rfl (pfgs_cons (pfg_nm sc.nd) (pfgs_cons (pfg_nm sc.nd) (pfgs_nil))) rfl rfl tp2))
    (pfs_cons (pfs_set (i := 4) sc.nd (pf_callD (ok__law_e_dip T) (hr.mono (by decide)) (fun σ => passAt (takes_of rfl rfl rfl rfl) σ) (pf_cons (pf_var 0) (pf_cons (pf_powC 100000000000000000000) (pf_nil)))))
    (pfs_cons (pfs_set (i := 5) sc.nd (pf_lst (pf_nil)))
    (pfs_cons (pfs_for (ws := [6]) (wp := [6]) (passes_of rfl) rfl (pfi_seq (pf_lst (pf_cons (pf_tup (pf_cons (pf_var 2) (pf_nil))) (pf_cons (pf_tup (pf_cons (pf_un fun_neg (pf_int)) (pf_nil))) (pf_cons (pf_tup (pf_cons (pf_op fop_add (pf_var 2) (pf_var 4)) (pf_nil))) (pf_cons (pf_tup (pf_cons (pf_op fop_sub (pf_un fun_neg (pf_int)) (pf_var 4)) (pf_nil))) (pf_cons (pf_tup (pf_cons (pf_int) (pf_cons (pf_var 2) (pf_nil)))) (pf_cons (pf_tup (pf_cons (pf_int) (pf_cons (pf_int) (pf_nil)))) (pf_cons (pf_tup (pf_cons (pf_int) (pf_cons (pf_int) (pf_nil)))) (pf_cons (pf_tup (pf_cons (pf_op fop_sub (pf_var 2) (pf_int)) (pf_cons (pf_op fop_sub (pf_var 2) (pf_int)) (pf_nil)))) (pf_cons (pf_tup (pf_cons (pf_var 2) (pf_cons (pf_int) (pf_nil)))) (pf_nil)))))))))))) (pfg_nm sc.nd) (pfs_one (pfs_expr (pf_lm 5 PySem.F.slot_list_append PySem.F.type_list_append fm_append (pf_cons (pf_tup (pf_cons (pf_tup (pf_cons (pf_str) (pf_cons (pf_var 6) (pf_nil)))) (pf_cons (pf_str) (pf_nil)))) (pf_nil)) (pv 5)))))
    (pfs_cons (pfs_for (ws := [7]) (wp := [7, 8]) (passes_of rfl) rfl (pfi_seq (pf_lst (pf_cons (pf_un fun_neg (pf_int)) (pf_cons (pf_var 2) (pf_cons (pf_op fop_add (pf_var 2) (pf_var 4)) (pf_cons (pf_op fop_sub (pf_un fun_neg (pf_int)) (pf_var 4)) (pf_nil))))))) (pfg_nm sc.nd) (pfs_one (pfs_for (ws := [8]) (wp := [8]) (passes_of rfl) rfl (pfi_seq (pf_lst (pf_cons (pf_str) (pf_cons (pf_str) (pf_nil))))) (pfg_nm sc.nd) (pfs_one (pfs_set (i := 5) sc.nd (pf_op fop_add (pf_var 5) (pf_lst (pf_cons (pf_tup (pf_cons (pf_tup (pf_cons (pf_var 8) (pf_cons (pf_var 7) (pf_cons (pf_int) (pf_nil))))) (pf_cons (pf_str) (pf_nil)))) (pf_cons (pf_tup (pf_cons (pf_tup (pf_cons (pf_var 8) (pf_cons (pf_int) (pf_cons (pf_var 7) (pf_nil))))) (pf_cons (pf_str) (pf_nil)))) (pf_cons (pf_tup (pf_cons (pf_tup (pf_cons (pf_var 8) (pf_cons (pf_var 7) (pf_cons (pf_var 7) (pf_nil))))) (pf_cons (pf_str) (pf_nil)))) (pf_nil)))))))))))
    (pfs_cons (pfs_for (ws := [7]) (wp := [7, 8, 9]) (passes_of rfl) rfl (pfi_range1 rfl (T.free 90) (pf_cons (pf_var 2) (pf_nil))) (pfg_nm sc.nd) (pfs_cons (pfs_set (i := 5) sc.nd (pf_op fop_add (pf_var 5) (pf_lst (pf_cons (pf_tup (pf_cons (pf_tup (pf_cons (pf_str) (pf_cons (pf_var 7) (pf_cons (pf_var 7) (pf_nil))))) (pf_cons (pf_str) (pf_nil)))) (pf_cons (pf_tup (pf_cons (pf_tup (pf_cons (pf_str) (pf_cons (pf_var 7) (pf_cons (pf_var 7) (pf_nil))))) (pf_cons (pf_str) (pf_nil)))) (pf_nil))))))
    (pfs_one (pfs_for (ws := [9]) (wp := [8, 9]) (passes_of rfl) rfl (pfi_range2 rfl (T.free 90) (pf_cons (pf_op fop_add (pf_var 7) (pf_int)) (pf_cons (pf_var 2) (pf_nil)))) (pfg_nm sc.nd) (pfs_cons (pfs_set (i := 8) sc.nd (pf_ix fix_d (pf_lst (pf_cons (pf_str) (pf_cons (pf_str) (pf_nil)))) (pf_bty fb_int (T.free 93) bb_int (pf_cons (pf_cmp (fop_in hr.u65) (pf_tup (pf_cons (pf_var 7) (pf_cons (pf_var 9) (pf_nil)))) (pf_var 3) (by rfl)) (pf_nil)))))
    (pfs_one (pfs_set (i := 5) sc.nd (pf_op fop_add (pf_var 5) (pf_lst (pf_cons (pf_tup (pf_cons (pf_tup (pf_cons (pf_var 8) (pf_cons (pf_var 7) (pf_cons (pf_var 9) (pf_nil))))) (pf_cons (pf_str) (pf_nil)))) (pf_cons (pf_tup (pf_cons (pf_tup (pf_cons (pf_var 8) (pf_cons (pf_var 9) (pf_cons (pf_var 7) (pf_nil))))) (pf_cons (pf_str) (pf_nil)))) (pf_nil))))))))))))
    (pfs_cons (pfs_if (pft_cmp (fop_eq hr.u64) (pf_var 2) (pf_int) (nomark _)) (pfs_one (pfs_set (i := 5) sc.nd (pf_op fop_add (pf_var 5) (pf_lst (pf_cons (pf_tup (pf_cons (pf_tup (pf_cons (pf_str) (pf_cons (pf_tup (pf_nil)) (pf_nil)))) (pf_cons (pf_str) (pf_nil)))) (pf_cons (pf_tup (pf_cons (pf_tup (pf_cons (pf_str) (pf_cons (pf_tup (pf_cons (pf_int) (pf_cons (pf_int) (pf_nil)))) (pf_nil)))) (pf_cons (pf_str) (pf_nil)))) (pf_cons (pf_tup (pf_cons (pf_tup (pf_cons (pf_str) (pf_cons (pf_tup (pf_cons (pf_int) (pf_cons (pf_int) (pf_nil)))) (pf_nil)))) (pf_cons (pf_str) (pf_nil)))) (pf_nil)))))))) (pfs_nil))
    (pfs_cons (pfs_if (pft_cmp (fop_eq hr.u64) (pf_var 2) (pf_int) (nomark _)) (pfs_one (pfs_expr (pf_lm 5 PySem.F.slot_list_append PySem.F.type_list_append fm_append (pf_cons (pf_tup (pf_cons (pf_tup (pf_cons (pf_str) (pf_nil))) (pf_cons (pf_str) (pf_nil)))) (pf_nil)) (pv 5)))) (pfs_nil))
    (pfs_one (pfs_ret (pf_var 5))))))))))
theorem sc__law_e_kind : FnScope ["caught", "names", "kinds"] ["caught"] (defScope s__law_e_kind) := ⟨rfl, rfl, rfl, by decide +kernel, rfl, by decide +kernel, by decide +kernel⟩
theorem ok__law_e_kind (T : TxOkQ fa fn exl K mg base) : Df P w K mg base "_law_e_kind" 1 ["caught"] [false] m__law_e_kind := by
  refine dfOk (bd := b__law_e_kind) T.toTxOk 36 22 sc__law_e_kind (by decide) (fun _ _ _ _ _ _ us hl => match us, hl with | [_], _ => rfl) ?_
  intro f cdv A outer s H vs E hr
  have sc := sc__law_e_kind
  exact pfs_cons (pfs_set (i := 1) sc.nd (pf_lst (pf_cons (pf_str) (pf_cons (pf_str) (pf_cons (pf_str) (pf_cons (pf_str) (pf_cons (pf_str) (pf_cons (pf_str) (pf_cons (pf_str) (pf_cons (pf_str) (pf_cons (pf_str) (pf_nil))))))))))))
    (pfs_cons (pfs_set (i := 2) sc.nd (pf_lst (pf_cons (pf_isX (tb := [("NoWeb", false), ("NoPlace", false), ("NoTie", false), ("TooMany", false)]) (pf_var 0) (T.free 92) (T.glo 79) (T.isOwn 2)) (pf_cons (pf_isX (tb := [("NoWeb", false), ("NoPlace", false), ("NoTie", false), ("TooMany", false)]) (pf_var 0) (T.free 92) (T.glo 78) (T.isOwn 1)) (pf_cons (pf_isX (tb := [("NoWeb", false), ("NoPlace", true), ("NoTie", false), ("TooMany", false)]) (pf_var 0) (T.free 92) (T.glo 72) (T.isOwn 0)) (pf_nil))))))
    (pfs_cons (pfs_set (i := 2) sc.nd (pf_op fop_add (pf_var 2) (pf_lst (pf_cons (pf_isX (tb := [("NoWeb", false), ("NoPlace", false), ("NoTie", false), ("TooMany", false)]) (pf_var 0) (T.free 92) (T.glo 81) (T.isOwn 5)) (pf_cons (pf_isX (tb := [("NoWeb", false), ("NoPlace", false), ("NoTie", false), ("TooMany", false)]) (pf_var 0) (T.free 92) (T.glo 80) (T.isOwn 4)) (pf_cons (pf_isX (tb := [("NoWeb", false), ("NoPlace", false), ("NoTie", true), ("TooMany", false)]) (pf_var 0) (T.free 92) (T.glo 74) (T.isOwn 3)) (pf_nil)))))))
    (pfs_cons (pfs_set (i := 2) sc.nd (pf_op fop_add (pf_var 2) (pf_lst (pf_cons (pf_isX (tb := [("NoWeb", false), ("NoPlace", false), ("NoTie", false), ("TooMany", false)]) (pf_var 0) (T.free 92) (T.glo 82) (T.isOwn 8)) (pf_cons (pf_isX (tb := [("NoWeb", true), ("NoPlace", false), ("NoTie", false), ("TooMany", false)]) (pf_var 0) (T.free 92) (T.glo 70) (T.isOwn 7)) (pf_cons (pf_isX (tb := [("NoWeb", false), ("NoPlace", false), ("NoTie", false), ("TooMany", true)]) (pf_var 0) (T.free 92) (T.glo 76) (T.isOwn 6)) (pf_nil)))))))
    (pfs_cons (pfs_if (pft_W (pfw_or (pft_cmp (fop_ne hr.u64) (pf_lm 2 PySem.F.slot_list_count PySem.F.type_list_count fm_countB (pf_cons (pf_bl) (pf_nil)) (pv 2)) (pf_int) (nomark _)) (pfw_or1 (pft_not (pft_B (pf_isXT (T := "ValueError") (tb := [("NoWeb", true), ("NoPlace", true), ("NoTie", true), ("TooMany", true)]) (pf_var 0) (T.free 92) (T.free 101) (by decide +kernel) (T.isTy 9))))))) (pfs_one (pfs_ret (pf_str))) (pfs_nil))
    (pfs_one (pfs_ret (pf_ix fix_d (pf_var 1) (pf_lm 2 PySem.F.slot_list_index PySem.F.type_list_index fm_indexB (pf_cons (pf_bl) (pf_nil)) (pv 2)))))))))
theorem sc_is_place : FnScope ["web", "thing"] ["web", "thing"] (defScope s_is_place) := ⟨rfl, rfl, rfl, by decide +kernel, rfl, by decide +kernel, by decide +kernel⟩
theorem ok_is_place (T : TxOkQ fa fn exl K mg base) : Df P w K mg base "is_place" 1 ["web", "thing"] [false, false] m_is_place := by
  refine dfOk (bd := b_is_place) T.toTxOk 37 23 sc_is_place (by decide) (fun _ _ _ _ _ _ us hl => match us, hl with | [_, _], _ => rfl) ?_
  intro f cdv A outer s H vs E hr
  have sc := sc_is_place
  exact pfs_one (pfs_ret (pf_and (pf_isinst .int (pf_var 1) (T.free 92) (T.free 93) bb_int) (pf_and (pf_not (pf_isinst .bool (pf_var 1) (T.free 92) (T.free 94) bb_bool)) (pf_one (pf_chain fop_le (fop_lt hr.units0) (pf_int) (pf_var 1) (pf_ix fix_d (pf_var 0) (pf_int)))))))
theorem sc_Sharing_need_pair : FnScope ["self", "one", "other"] ["self", "one", "other"] (defScope s_Sharing_need_pair) := ⟨rfl, rfl, rfl, by decide +kernel, rfl, by decide +kernel, by decide +kernel⟩
theorem ok_Sharing_need_pair (T : TxOkQ fa fn exl K mg base) : Dm P w K mg base "Sharing" "need_pair" 2 ["self", "one", "other"] [true, false, false] m_Sharing_need_pair := by
  refine dmOk (bd := b_Sharing_need_pair) T.toTxOk 38 sc_Sharing_need_pair (by decide) (fun _ _ _ _ _ _ us hl => match us, hl with | [_, _, _], _ => rfl) ?_
  intro f cdv A outer s H vs E hr
  have sc := sc_Sharing_need_pair
  exact pfs_one (pfs_if (pft_W (pfw_or (pft_not (pft_B (pf_callD (ok_is_place T) (hr.mono (by decide)) (fun σ => passAt (takes_of rfl rfl rfl rfl) σ) (pf_cons (pf_fld (c := "Sharing") 0 (T.cls 52) (T.noat 53) (pv 0)) (pf_cons (pf_var 1) (pf_nil)))))) (pfw_or (pft_not (pft_B (pf_callD (ok_is_place T) (hr.mono (by decide)) (fun σ => passAt (takes_of rfl rfl rfl rfl) σ) (pf_cons (pf_fld (c := "Sharing") 0 (T.cls 52) (T.noat 53) (pv 0)) (pf_cons (pf_var 2) (pf_nil)))))) (pfw_or1 (pft_cmp (fop_eq hr.u64) (pf_var 1) (pf_var 2) (nomark _)))))) (pfs_one (pfs_raise rfl (takes_of rfl rfl rfl rfl) (T.glo 72) (T.exc 73))) (pfs_nil))
theorem sc_tied_in : FnScope ["web", "one", "other"] ["web", "one", "other"] (defScope s_tied_in) := ⟨rfl, rfl, rfl, by decide +kernel, rfl, by decide +kernel, by decide +kernel⟩
theorem ok_tied_in (T : TxOkQ fa fn exl K mg base) : Df P w K mg base "tied_in" 1 ["web", "one", "other"] [false, false, false] m_tied_in := by
  refine dfOk (bd := b_tied_in) T.toTxOk 39 24 sc_tied_in (by decide) (fun _ _ _ _ _ _ us hl => match us, hl with | [_, _, _], _ => rfl) ?_
  intro f cdv A outer s H vs E hr
  have sc := sc_tied_in
  exact pfs_one (pfs_ret (pf_cmp (fop_in hr.u65) (pf_tup (pf_cons (pf_blt (fb_min2 rfl) (T.free 103) bb_min (pf_cons (pf_var 1) (pf_cons (pf_var 2) (pf_nil)))) (pf_cons (pf_blt (fb_max2 rfl) (T.free 102) bb_max (pf_cons (pf_var 1) (pf_cons (pf_var 2) (pf_nil)))) (pf_nil)))) (pf_ix fix_d (pf_var 0) (pf_int)) (by rfl)))
theorem sc_is_laid : FnScope ["web", "laying", "some", "part", "place", "at", "one", "other"] ["web", "laying"] (defScope s_is_laid) := ⟨rfl, rfl, rfl, by decide +kernel, rfl, by decide +kernel, by decide +kernel⟩
theorem ok_is_laid (T : TxOkQ fa fn exl K mg base) : Df P w K mg base "is_laid" 2 ["web", "laying"] [false, false] m_is_laid := by
  refine dfOk (bd := b_is_laid) T.toTxOk 40 25 sc_is_laid (by decide) (fun _ _ _ _ _ _ us hl => match us, hl with | [_, _], _ => rfl) ?_
  intro f cdv A outer s H vs E hr
  have sc := sc_is_laid
  exact pfs_cons (pfs_for (ws := [2, 3]) (wp := [2, 3, 4, 5, 6, 7]) (passes_of rfl) rfl (pfi_seq (pf_var 1)) (pfg_tup rfl (pfgs_cons (pfg_nm sc.nd) (pfgs_cons (pfg_nm sc.nd) (pfgs_nil))) rfl rfl tp2) (pfs_cons (pfs_if (pft_not (pft_B (pf_blt (fb_all rfl) (T.free 95) bb_all (pf_cons (pf_lc (own := [("place", 4)]) rfl sc.nd (pfi_seq (pf_var 2)) (blkOk_by (by rfl)) (fun s H C cl fp => pfg_nm sc.nd) (fun s H C cl fp => pfts_nil) (fun s H C cl fp => pf_cmp (fop_lt hr.units0) (pf_var 4) (pf_ix fix_d (pf_var 0) (pf_int)) (nomark _))) (pf_nil))))) (pfs_one (pfs_ret (pf_bl))) (pfs_nil))
    (pfs_one (pfs_for (ws := [5, 6]) (wp := [5, 6, 7]) (passes_of rfl) rfl (pfi_enum rfl (T.free 96) (pf_cons (pf_var 2) pf_nil)) (pfg_tup rfl (pfgs_cons (pfg_nm sc.nd) (pfgs_cons (pfg_nm sc.nd) (pfgs_nil))) rfl rfl tp2) (pfs_one (pfs_if (pft_B (pf_blt (fb_any rfl) (T.free 104) bb_any (pf_cons (pf_lc (own := [("other", 7)]) rfl sc.nd (pfi_seq (pf_sl (pf_var 2) (pfo_none) (pfo_some (pf_var 5)))) (blkOk_by (by rfl)) (fun s H C cl fp => pfg_nm sc.nd) (fun s H C cl fp => pfts_nil) (fun s H C cl fp => pf_callD (ok_tied_in T) (hr.mono (by decide)) pass0At (pf_cons (pf_var 0) (pf_cons (pf_var 6) (pf_cons (pf_var 7) (pf_nil)))))) (pf_nil)))) (pfs_one (pfs_ret (pf_bl))) (pfs_nil)))))))
    (pfs_one (pfs_ret (pf_bl)))
theorem sc_sum_of_sharing : FnScope ["laying", "found", "some", "part"] ["laying"] (defScope s_sum_of_sharing) := ⟨rfl, rfl, rfl, by decide +kernel, rfl, by decide +kernel, by decide +kernel⟩
theorem ok_sum_of_sharing (T : TxOkQ fa fn exl K mg base) : Df P w K mg base "sum_of_sharing" 4 ["laying"] [false] m_sum_of_sharing := by
  refine dfOkA (bd := b_sum_of_sharing) T.toTxOk 41 26 sc_sum_of_sharing (by decide) (fun _ _ _ _ _ _ us hl => match us, hl with | [_], _ => rfl) ?_
  intro f cdv A outer s H vs E hr
  have sc := sc_sum_of_sharing
  exact pfs_cons (pfs_set (i := 1) sc.nd (pf_tup (pf_cons (pf_int) (pf_cons (pf_int) (pf_nil)))))
    (pfs_cons (pfs_for (ws := [2, 3]) (wp := [2, 3]) (passes_of rfl) rfl (pfi_seq (pf_var 0)) (pfg_tup rfl (pfgs_cons (pfg_nm sc.nd) (pfgs_cons (pfg_nm sc.nd) (pfgs_nil))) rfl rfl tp2) (pfs_one (pfs_set (i := 1) sc.nd (pf_callD (ok_plus T) (hr.mono (by decide)) (fun σ => passAt (takes_of rfl rfl rfl rfl) σ) (pf_cons (pf_var 1) (pf_cons (pf_var 3) (pf_nil)))))))
    (pfs_one (pfs_ret (pf_var 1))))
theorem sc_is_less : FnScope ["one", "other"] ["one", "other"] (defScope s_is_less) := ⟨rfl, rfl, rfl, by decide +kernel, rfl, by decide +kernel, by decide +kernel⟩
theorem ok_is_less (T : TxOkQ fa fn exl K mg base) : Df P w K mg base "is_less" 1 ["one", "other"] [false, false] m_is_less := by
  refine dfOk (bd := b_is_less) T.toTxOk 42 27 sc_is_less (by decide) (fun _ _ _ _ _ _ us hl => match us, hl with | [_, _], _ => rfl) ?_
  intro f cdv A outer s H vs E hr
  have sc := sc_is_less
  exact pfs_one (pfs_ret (pf_cmp (fop_lt hr.units0) (pf_op fop_mul (pf_ix fix_d (pf_var 0) (pf_int)) (pf_ix fix_d (pf_var 1) (pf_int))) (pf_op fop_mul (pf_ix fix_d (pf_var 1) (pf_int)) (pf_ix fix_d (pf_var 0) (pf_int))) (nomark _)))
theorem sc_sum_at : FnScope ["laying", "place", "found", "some", "part"] ["laying", "place"] (defScope s_sum_at) := ⟨rfl, rfl, rfl, by decide +kernel, rfl, by decide +kernel, by decide +kernel⟩
theorem ok_sum_at (T : TxOkQ fa fn exl K mg base) : Df P w K mg base "sum_at" 4 ["laying", "place"] [false, false] m_sum_at := by
  refine dfOk (bd := b_sum_at) T.toTxOk 43 28 sc_sum_at (by decide) (fun _ _ _ _ _ _ us hl => match us, hl with | [_, _], _ => rfl) ?_
  intro f cdv A outer s H vs E hr
  have sc := sc_sum_at
  exact pfs_cons (pfs_set (i := 2) sc.nd (pf_tup (pf_cons (pf_int) (pf_cons (pf_int) (pf_nil)))))
    (pfs_cons (pfs_for (ws := [3, 4]) (wp := [3, 4]) (passes_of rfl) rfl (pfi_seq (pf_var 0)) (pfg_tup rfl (pfgs_cons (pfg_nm sc.nd) (pfgs_cons (pfg_nm sc.nd) (pfgs_nil))) rfl rfl tp2) (pfs_one (pfs_if (pft_cmp (fop_in hr.u65) (pf_var 1) (pf_var 3) (by rfl)) (pfs_one (pfs_set (i := 2) sc.nd (pf_callD (ok_plus T) (hr.mono (by decide)) (fun σ => passAt (takes_of rfl rfl rfl rfl) σ) (pf_cons (pf_var 2) (pf_cons (pf_var 4) (pf_nil)))))) (pfs_nil))))
    (pfs_one (pfs_ret (pf_var 2))))
theorem sc_still_good : FnScope ["web", "laying", "least", "place"] ["web", "laying", "least"] (defScope s_still_good) := ⟨rfl, rfl, rfl, by decide +kernel, rfl, by decide +kernel, by decide +kernel⟩
theorem ok_still_good (T : TxOkQ fa fn exl K mg base) : Df P w K mg base "still_good" 5 ["web", "laying", "least"] [false, false, false] m_still_good := by
  refine dfOk (bd := b_still_good) T.toTxOk 44 29 sc_still_good (by decide) (fun _ _ _ _ _ _ us hl => match us, hl with | [_, _, _], _ => rfl) ?_
  intro f cdv A outer s H vs E hr
  have sc := sc_still_good
  exact pfs_cons (pfs_if (pft_W (pfw_or (pft_not (pft_B (pf_callD (ok_is_laid T) (hr.mono (by decide)) (fun σ => passAt (takes_of rfl rfl rfl rfl) σ) (pf_cons (pf_var 0) (pf_cons (pf_var 1) (pf_nil)))))) (pfw_or1 (pft_cmp (fop_ne hr.u64) (pf_callD (ok_sum_of_sharing T) (hr.mono (by decide)) (fun σ => passAt (takes_of rfl rfl rfl rfl) σ) (pf_cons (pf_var 1) (pf_nil))) (pf_var 2) (nomark _))))) (pfs_one (pfs_ret (pf_bl))) (pfs_nil))
    (pfs_one (pfs_ret (pf_not (pf_blt (fb_any rfl) (T.free 104) bb_any (pf_cons (pf_lc (own := [("place", 3)]) rfl sc.nd (pfi_range1 rfl (T.free 90) (pf_cons (pf_ix fix_d (pf_var 0) (pf_int)) (pf_nil))) (blkOk_by (by rfl)) (fun s H C cl fp => pfg_nm sc.nd) (fun s H C cl fp => pfts_nil) (fun s H C cl fp => pf_callD (ok_is_less T) (hr.mono (by decide)) pass0At (pf_cons (pf_callD (ok_sum_at T) (hr.mono (by decide)) pass0At (pf_cons (pf_var 1) (pf_cons (pf_var 3) (pf_nil)))) (pf_cons (pf_tup (pf_cons (pf_int) (pf_cons (pf_int) (pf_nil)))) (pf_nil))))) (pf_nil))))))
theorem sc_Sharing_change : FnScope ["self", "web", "laying"] ["self", "web"] (defScope s_Sharing_change) := ⟨rfl, rfl, rfl, by decide +kernel, rfl, by decide +kernel, by decide +kernel⟩
theorem ok_Sharing_change (T : TxOkQ fa fn exl K mg base) : Dm P w K mg base "Sharing" "change" 19 ["self", "web"] [true, false] m_Sharing_change := by
  refine dmOk (bd := b_Sharing_change) T.toTxOk 45 sc_Sharing_change (by decide) (fun _ _ _ _ _ _ us hl => match us, hl with | [_, _], _ => rfl) ?_
  intro f cdv A outer s H vs E hr
  have sc := sc_Sharing_change
  exact pfs_cons (pfs_setF (c := "Sharing") 0 (T.cls 52) (T.noat 53) (pf_var 1) (pv 0))
    (pfs_cons (pfs_unpW (pf_callD (ok_shares_in T) (hr.mono (by decide)) (fun σ => passAt (takes_of rfl rfl rfl rfl) σ) (pf_cons (pf_var 1) (pf_cons (pf_op fop_mul (pf_tup (pf_cons (pf_int) (pf_nil))) (pf_ix fix_d (pf_var 1) (pf_int))) (pf_nil)))) (pw_tup rfl (pws_cons (pw_fld (c := "Sharing") 0 (T.cls 52) (T.noat 57) (pv 0)) (pws_cons (pw_nm sc.nd) (pws_cons (pw_fld (c := "Sharing") 0 (T.cls 52) (T.noat 55) (pv 0)) (pws_nil)))) (tpT_cons thru_fld (tpT_cons thru_nm (tpT_cons thru_fld (tpT_nil))))))
    (pfs_one (pfs_if (pft_not (pft_B (pf_callD (ok_still_good T) (hr.mono (by decide)) (fun σ => passAt (takes_of rfl rfl rfl rfl) σ) (pf_cons (pf_var 1) (pf_cons (pf_fld (c := "Sharing") 0 (T.cls 52) (T.noat 56) (pv 0)) (pf_cons (pf_fld (c := "Sharing") 0 (T.cls 52) (T.noat 57) (pv 0)) (pf_nil))))))) (pfs_cons (pfs_setF (c := "Sharing") 0 (T.cls 52) (T.noat 56) (pf_var 2) (pv 0))
    (pfs_one (pfs_setF (c := "Sharing") 0 (T.cls 52) (T.noat 54) (pf_op fop_add (pf_fld (c := "Sharing") 0 (T.cls 52) (T.noat 54) (pv 0)) (pf_int)) (pv 0)))) (pfs_nil))))
theorem sc_Sharing_untie : FnScope ["self", "one", "other", "pair", "tie"] ["self", "one", "other"] (defScope s_Sharing_untie) := ⟨rfl, rfl, rfl, by decide +kernel, rfl, by decide +kernel, by decide +kernel⟩
theorem ok_Sharing_untie (T : TxOkQ fa fn exl K mg base) : Dm P w K mg base "Sharing" "untie" 20 ["self", "one", "other"] [true, false, false] m_Sharing_untie := by
  refine dmOk (bd := b_Sharing_untie) T.toTxOk 46 sc_Sharing_untie (by decide) (fun _ _ _ _ _ _ us hl => match us, hl with | [_, _, _], _ => rfl) ?_
  intro f cdv A outer s H vs E hr
  have sc := sc_Sharing_untie
  exact pfs_cons (pfs_expr (pf_callM 0 (ok_Sharing_need_pair T) (T.cls 52) (T.meth 62) (hr.mono (by decide)) (fun σ => passAt (takes_of rfl rfl rfl rfl) σ) (pv 0) (pf_cons (pf_var 1) (pf_cons (pf_var 2) (pf_nil)))))
    (pfs_cons (pfs_if (pft_not (pft_B (pf_callD (ok_tied_in T) (hr.mono (by decide)) (fun σ => passAt (takes_of rfl rfl rfl rfl) σ) (pf_cons (pf_fld (c := "Sharing") 0 (T.cls 52) (T.noat 53) (pv 0)) (pf_cons (pf_var 1) (pf_cons (pf_var 2) (pf_nil))))))) (pfs_one (pfs_raise rfl (takes_of rfl rfl rfl rfl) (T.glo 74) (T.exc 75))) (pfs_nil))
    (pfs_cons (pfs_set (i := 3) sc.nd (pf_tup (pf_cons (pf_blt (fb_min2 rfl) (T.free 103) bb_min (pf_cons (pf_var 1) (pf_cons (pf_var 2) (pf_nil)))) (pf_cons (pf_blt (fb_max2 rfl) (T.free 102) bb_max (pf_cons (pf_var 1) (pf_cons (pf_var 2) (pf_nil)))) (pf_nil)))))
    (pfs_one (pfs_expr (pf_callM 0 (ok_Sharing_change T) (T.cls 52) (T.meth 63) (hr.mono (by decide)) (fun σ => passAt (takes_of rfl rfl rfl rfl) σ) (pv 0) (pf_cons (pf_tup (pf_cons (pf_ix fix_d (pf_fld (c := "Sharing") 0 (T.cls 52) (T.noat 53) (pv 0)) (pf_int)) (pf_cons (pf_bty fb_tuple (T.free 91) bb_tuple (pf_cons (pf_lc (own := [("tie", 4)]) rfl sc.nd (pfi_seq (pf_ix fix_d (pf_fld (c := "Sharing") 0 (T.cls 52) (T.noat 53) (pv 0)) (pf_int))) (blkOk_by (by rfl)) (fun s H C cl fp => pfg_nm sc.nd) (fun s H C cl fp => pfts_one (pft_cmp (fop_ne hr.u64) (pf_var 4) (pf_var 3) (nomark _))) (fun s H C cl fp => pf_var 4)) (pf_nil))) (pf_nil)))) (pf_nil)))))))
theorem sc_are_places : FnScope ["web", "thing", "place", "at"] ["web", "thing"] (defScope s_are_places) := ⟨rfl, rfl, rfl, by decide +kernel, rfl, by decide +kernel, by decide +kernel⟩
theorem ok_are_places (T : TxOkQ fa fn exl K mg base) : Df P w K mg base "are_places" 2 ["web", "thing"] [false, false] m_are_places := by
  refine dfOk (bd := b_are_places) T.toTxOk 47 30 sc_are_places (by decide) (fun _ _ _ _ _ _ us hl => match us, hl with | [_, _], _ => rfl) ?_
  intro f cdv A outer s H vs E hr
  have sc := sc_are_places
  exact pfs_cons (pfs_if (pft_W (pfw_or (pft_not (pft_B (pf_isinst .tuple (pf_var 1) (T.free 92) (T.free 91) bb_tuple))) (pfw_or1 (pft_not (pft_B (pf_blt (fb_all rfl) (T.free 95) bb_all (pf_cons (pf_lc (own := [("place", 2)]) rfl sc.nd (pfi_seq (pf_var 1)) (blkOk_by (by rfl)) (fun s H C cl fp => pfg_nm sc.nd) (fun s H C cl fp => pfts_nil) (fun s H C cl fp => pf_callD (ok_is_place T) (hr.mono (by decide)) pass0At (pf_cons (pf_var 0) (pf_cons (pf_var 2) (pf_nil))))) (pf_nil)))))))) (pfs_one (pfs_ret (pf_bl))) (pfs_nil))
    (pfs_one (pfs_ret (pf_blt (fb_all rfl) (T.free 95) bb_all (pf_cons (pf_lc (own := [("at", 3)]) rfl sc.nd (pfi_range1 rfl (T.free 90) (pf_cons (pf_op fop_sub (pf_blt fb_len (T.free 89) bb_len (pf_cons (pf_var 1) (pf_nil))) (pf_int)) (pf_nil))) (blkOk_by (by rfl)) (fun s H C cl fp => pfg_nm sc.nd) (fun s H C cl fp => pfts_nil) (fun s H C cl fp => pf_cmp (fop_lt hr.units0) (pf_ix fix_d (pf_var 1) (pf_var 3)) (pf_ix fix_d (pf_var 1) (pf_op fop_add (pf_var 3) (pf_int))) (nomark _))) (pf_nil)))))
theorem sc_Sharing_put : FnScope ["self", "ties", "number", "more", "place"] ["self", "ties"] (defScope s_Sharing_put) := ⟨rfl, rfl, rfl, by decide +kernel, rfl, by decide +kernel, by decide +kernel⟩
theorem ok_Sharing_put (T : TxOkQ fa fn exl K mg base) : Dm P w K mg base "Sharing" "put" 20 ["self", "ties"] [true, false] m_Sharing_put := by
  refine dmOk (bd := b_Sharing_put) T.toTxOk 48 sc_Sharing_put (by decide) (fun _ _ _ _ _ _ us hl => match us, hl with | [_, _], _ => rfl) ?_
  intro f cdv A outer s H vs E hr
  have sc := sc_Sharing_put
  exact pfs_cons (pfs_if (pft_not (pft_B (pf_callD (ok_are_places T) (hr.mono (by decide)) (fun σ => passAt (takes_of rfl rfl rfl rfl) σ) (pf_cons (pf_fld (c := "Sharing") 0 (T.cls 52) (T.noat 53) (pv 0)) (pf_cons (pf_var 1) (pf_nil)))))) (pfs_one (pfs_raise rfl (takes_of rfl rfl rfl rfl) (T.glo 72) (T.exc 73))) (pfs_nil))
    (pfs_cons (pfs_set (i := 2) sc.nd (pf_ix fix_d (pf_fld (c := "Sharing") 0 (T.cls 52) (T.noat 53) (pv 0)) (pf_int)))
    (pfs_cons (pfs_if (pft_cmp (fop_eq hr.u64) (pf_var 2) (pf_globI (T.int 88)) (nomark _)) (pfs_one (pfs_raise rfl (takes_of rfl rfl rfl rfl) (T.glo 76) (T.exc 77))) (pfs_nil))
    (pfs_cons (pfs_setLc (own := [("place", 4)]) rfl sc.nd rfl (pfi_seq (pf_var 1)) (blkOk_by (by rfl)) (fun s H C cl fp => pfg_nm sc.nd) (fun s H C cl fp => pfts_nil) (fun s H C cl fp => pf_tup (pf_cons (pf_var 4) (pf_cons (pf_var 2) (pf_nil)))))
    (pfs_cons (pfs_expr (pf_callM 0 (ok_Sharing_change T) (T.cls 52) (T.meth 63) (hr.mono (by decide)) (fun σ => passAt (takes_of rfl rfl rfl rfl) σ) (pv 0) (pf_cons (pf_tup (pf_cons (pf_op fop_add (pf_var 2) (pf_int)) (pf_cons (pf_bty fb_tuple (T.free 91) bb_tuple (pf_cons (pf_blt fb_sorted (T.free 98) bb_sorted (pf_cons (pf_op fop_add (pf_bty fb_list (T.free 97) bb_list (pf_cons (pf_ix fix_d (pf_fld (c := "Sharing") 0 (T.cls 52) (T.noat 53) (pv 0)) (pf_int)) (pf_nil))) (pf_var 3)) (pf_nil))) (pf_nil))) (pf_nil)))) (pf_nil))))
    (pfs_one (pfs_ret (pf_var 2)))))))
theorem sc_Sharing_drop : FnScope ["self", "last", "tie"] ["self"] (defScope s_Sharing_drop) := ⟨rfl, rfl, rfl, by decide +kernel, rfl, by decide +kernel, by decide +kernel⟩
theorem ok_Sharing_drop (T : TxOkQ fa fn exl K mg base) : Dm P w K mg base "Sharing" "drop" 20 ["self"] [true] m_Sharing_drop := by
  refine dmOk (bd := b_Sharing_drop) T.toTxOk 49 sc_Sharing_drop (by decide) (fun _ _ _ _ _ _ us hl => match us, hl with | [_], _ => rfl) ?_
  intro f cdv A outer s H vs E hr
  have sc := sc_Sharing_drop
  exact pfs_cons (pfs_if (pft_cmp (fop_eq hr.u64) (pf_ix fix_d (pf_fld (c := "Sharing") 0 (T.cls 52) (T.noat 53) (pv 0)) (pf_int)) (pf_int) (nomark _)) (pfs_one (pfs_raise rfl (takes_of rfl rfl rfl rfl) (T.glo 72) (T.exc 73))) (pfs_nil))
    (pfs_cons (pfs_set (i := 1) sc.nd (pf_op fop_sub (pf_ix fix_d (pf_fld (c := "Sharing") 0 (T.cls 52) (T.noat 53) (pv 0)) (pf_int)) (pf_int)))
    (pfs_one (pfs_expr (pf_callM 0 (ok_Sharing_change T) (T.cls 52) (T.meth 63) (hr.mono (by decide)) (fun σ => passAt (takes_of rfl rfl rfl rfl) σ) (pv 0) (pf_cons (pf_tup (pf_cons (pf_var 1) (pf_cons (pf_bty fb_tuple (T.free 91) bb_tuple (pf_cons (pf_lc (own := [("tie", 2)]) rfl sc.nd (pfi_seq (pf_ix fix_d (pf_fld (c := "Sharing") 0 (T.cls 52) (T.noat 53) (pv 0)) (pf_int))) (blkOk_by (by rfl)) (fun s H C cl fp => pfg_nm sc.nd) (fun s H C cl fp => pfts_one (pft_cmp (fop_ne hr.u64) (pf_ix fix_d (pf_var 2) (pf_int)) (pf_var 1) (nomark _))) (fun s H C cl fp => pf_var 2)) (pf_nil))) (pf_nil)))) (pf_nil))))))
theorem sc_Sharing_tie : FnScope ["self", "one", "other", "pair"] ["self", "one", "other"] (defScope s_Sharing_tie) := ⟨rfl, rfl, rfl, by decide +kernel, rfl, by decide +kernel, by decide +kernel⟩
theorem ok_Sharing_tie (T : TxOkQ fa fn exl K mg base) : Dm P w K mg base "Sharing" "tie" 20 ["self", "one", "other"] [true, false, false] m_Sharing_tie := by
  refine dmOk (bd := b_Sharing_tie) T.toTxOk 50 sc_Sharing_tie (by decide) (fun _ _ _ _ _ _ us hl => match us, hl with | [_, _, _], _ => rfl) ?_
  intro f cdv A outer s H vs E hr
  have sc := sc_Sharing_tie
  exact pfs_cons (pfs_expr (pf_callM 0 (ok_Sharing_need_pair T) (T.cls 52) (T.meth 62) (hr.mono (by decide)) (fun σ => passAt (takes_of rfl rfl rfl rfl) σ) (pv 0) (pf_cons (pf_var 1) (pf_cons (pf_var 2) (pf_nil)))))
    (pfs_cons (pfs_if (pft_B (pf_callD (ok_tied_in T) (hr.mono (by decide)) (fun σ => passAt (takes_of rfl rfl rfl rfl) σ) (pf_cons (pf_fld (c := "Sharing") 0 (T.cls 52) (T.noat 53) (pv 0)) (pf_cons (pf_var 1) (pf_cons (pf_var 2) (pf_nil)))))) (pfs_one (pfs_raise rfl (takes_of rfl rfl rfl rfl) (T.glo 74) (T.exc 75))) (pfs_nil))
    (pfs_cons (pfs_set (i := 3) sc.nd (pf_tup (pf_cons (pf_blt (fb_min2 rfl) (T.free 103) bb_min (pf_cons (pf_var 1) (pf_cons (pf_var 2) (pf_nil)))) (pf_cons (pf_blt (fb_max2 rfl) (T.free 102) bb_max (pf_cons (pf_var 1) (pf_cons (pf_var 2) (pf_nil)))) (pf_nil)))))
    (pfs_one (pfs_expr (pf_callM 0 (ok_Sharing_change T) (T.cls 52) (T.meth 63) (hr.mono (by decide)) (fun σ => passAt (takes_of rfl rfl rfl rfl) σ) (pv 0) (pf_cons (pf_tup (pf_cons (pf_ix fix_d (pf_fld (c := "Sharing") 0 (T.cls 52) (T.noat 53) (pv 0)) (pf_int)) (pf_cons (pf_bty fb_tuple (T.free 91) bb_tuple (pf_cons (pf_blt fb_sorted (T.free 98) bb_sorted (pf_cons (pf_op fop_add (pf_ix fix_d (pf_fld (c := "Sharing") 0 (T.cls 52) (T.noat 53) (pv 0)) (pf_int)) (pf_tup (pf_cons (pf_var 3) (pf_nil)))) (pf_nil))) (pf_nil))) (pf_nil)))) (pf_nil)))))))
theorem sc__law_e_do : FnScope ["sharing", "deed"] ["sharing", "deed"] (defScope s__law_e_do) := ⟨rfl, rfl, rfl, by decide +kernel, rfl, by decide +kernel, by decide +kernel⟩
theorem ok__law_e_do (T : TxOkQ fa fn exl K mg base) : Df P w K mg base "_law_e_do" 21 ["sharing", "deed"] [true, false] m__law_e_do := by
  refine dfOk (bd := b__law_e_do) T.toTxOk 51 31 sc__law_e_do (by decide) (fun _ _ _ _ _ _ us hl => match us, hl with | [_, _], _ => rfl) ?_
  intro f cdv A outer s H vs E hr
  have sc := sc__law_e_do
  exact pfs_cons (pfs_if (pft_cmp (fop_eq hr.u64) (pf_ix fix_d (pf_var 1) (pf_int)) (pf_str) (nomark _)) (pfs_one (pfs_ret (pf_callM 0 (ok_Sharing_put T) (T.cls 52) (T.meth 64) (hr.mono (by decide)) (fun σ => passAt (takes_of rfl rfl rfl rfl) σ) (pv 0) (pf_cons (pf_ix fix_d (pf_var 1) (pf_int)) (pf_nil))))) (pfs_nil))
    (pfs_cons (pfs_if (pft_cmp (fop_eq hr.u64) (pf_ix fix_d (pf_var 1) (pf_int)) (pf_str) (nomark _)) (pfs_one (pfs_ret (pf_callM0 0 (ok_Sharing_drop T) (T.cls 52) (T.meth 65) (hr.mono (by decide)) (fun σ => passAt (takes_of rfl rfl rfl rfl) σ) (pv 0)))) (pfs_nil))
    (pfs_cons (pfs_if (pft_cmp (fop_eq hr.u64) (pf_ix fix_d (pf_var 1) (pf_int)) (pf_str) (nomark _)) (pfs_one (pfs_ret (pf_callM 0 (ok_Sharing_tie T) (T.cls 52) (T.meth 66) (hr.mono (by decide)) (fun σ => passAt (takes_of rfl rfl rfl rfl) σ) (pv 0) (pf_cons (pf_ix fix_d (pf_var 1) (pf_int)) (pf_cons (pf_ix fix_d (pf_var 1) (pf_int)) (pf_nil)))))) (pfs_nil))
    (pfs_one (pfs_ret (pf_callM 0 (ok_Sharing_untie T) (T.cls 52) (T.meth 67) (hr.mono (by decide)) (fun σ => passAt (takes_of rfl rfl rfl rfl) σ) (pv 0) (pf_cons (pf_ix fix_d (pf_var 1) (pf_int)) (pf_cons (pf_ix fix_d (pf_var 1) (pf_int)) (pf_nil))))))))
theorem sc__law_e_word : FnScope ["sharing", "deed", "caught", "e"] ["sharing", "deed"] (defScope s__law_e_word) := ⟨rfl, rfl, rfl, by decide +kernel, rfl, by decide +kernel, by decide +kernel⟩
theorem ok__law_e_word (T : TxOkQ fa fn exl K mg base) : Df P w K mg base "_law_e_word" 22 ["sharing", "deed"] [true, false] m__law_e_word := by
  refine dfOk (bd := b__law_e_word) T.toTxOk 52 32 sc__law_e_word (by decide) (fun _ _ _ _ _ _ us hl => match us, hl with | [_, _], _ => rfl) ?_
  intro f cdv A outer s H vs E hr
  have sc := sc__law_e_word
  exact pfs_cons (pfs_set (i := 2) sc.nd (pf_non))
    (pfs_cons (pfs_try (ns := ["NoWeb", "NoPlace", "NoTie", "TooMany"]) (i := 3) rfl rfl sc.nd rfl rfl ⟨rfl, by decide, .inl (T.glo 83)⟩ (mem_cons' ⟨T.glo 70, T.exm 84⟩ (mem_cons' ⟨T.glo 72, T.exm 85⟩ (mem_cons' ⟨T.glo 74, T.exm 86⟩ (mem_cons' ⟨T.glo 76, T.exm 87⟩ (mem_nil'))))) (fun W pn xe tk => pfs_one (pfs_if (pft_isNo 0 (pv 0)) (pfs_one (pfs_expr (pf_mkC (c := "Sharing") (ok_Sharing_init T) (T.mkr 68) (T.glo 69) (hr.mono (by decide)) (fun σ => passAt tk σ) (pf_cons (pf_var 1) (pf_nil))))) (pfs_one (pfs_expr (pf_callD (ok__law_e_do T) (hr.mono (by decide)) (fun σ => passAt tk σ) (pf_cons (pf_var 0) (pf_cons (pf_var 1) (pf_nil)))))))) (fun a pn => pfs_one (pfs_set (i := 2) sc.nd (pf_var 3))))
    (pfs_cons (pfs_if (pft_cmp fop_is (pf_var 2) (pf_non) (nomark _)) (pfs_one (pfs_ret (pf_str))) (pfs_nil))
    (pfs_one (pfs_ret (pf_callD (ok__law_e_kind T) (hr.mono (by decide)) (fun σ => passAt (takes_of rfl rfl rfl rfl) σ) (pf_cons (pf_var 2) (pf_nil)))))))
theorem sc__law_e_next : FnScope ["cup", "web", "most", "n", "ties", "sort", "some", "place", "tie", "i", "j", "pair"] ["cup", "web", "most"] (defScope s__law_e_next) := ⟨rfl, rfl, rfl, by decide +kernel, rfl, by decide +kernel, by decide +kernel⟩
theorem ok__law_e_next (T : TxOkQ fa fn exl K mg base) : Df P w K mg base "_law_e_next" 3 ["cup", "web", "most"] [true, false, false] m__law_e_next := by
  refine dfOk (bd := b__law_e_next) T.toTxOk 53 33 sc__law_e_next (by decide) (fun _ _ _ _ _ _ us hl => match us, hl with | [_, _, _], _ => rfl) ?_
  intro f cdv A outer s H vs E hr
  have sc := sc__law_e_next
  exact pfs_cons (pfs_unp (ws := [3, 4]) (pf_var 1) (pfg_tup rfl (pfgs_cons (pfg_nm sc.nd) (pfgs_cons (pfg_nm sc.nd) (pfgs_nil))) rfl rfl tp2))
    (pfs_cons (pfs_set (i := 5) sc.nd (pf_callD (ok__law_e_dip T) (hr.mono (by decide)) (fun σ => passAt (takes_of rfl rfl rfl rfl) σ) (pf_cons (pf_var 0) (pf_cons (pf_int) (pf_nil)))))
    (pfs_cons (pfs_if (pft_W (pfw_or (pft_cmp (fop_eq hr.u64) (pf_var 3) (pf_int) (nomark _)) (pfw_or1 (pft_W (pfw_and (pft_cmp (fop_lt hr.units0) (pf_var 5) (pf_int) (nomark _)) (pfw_and1 (pft_cmp (fop_lt hr.units0) (pf_var 3) (pf_var 2) (nomark _)))))))) (pfs_cons (pfs_set (i := 6) sc.nd (pf_bty fb_tuple (T.free 91) bb_tuple (pf_cons (pf_lc (own := [("place", 7)]) rfl sc.nd (pfi_range1 rfl (T.free 90) (pf_cons (pf_var 3) (pf_nil))) (blkOk_by (by rfl)) (fun s H C cl fp => pfg_nm sc.nd) (fun s H C cl fp => pfts_one (pft_cmp (fop_eq hr.u64) (pf_callD (ok__law_e_dip T) (hr.mono (by decide)) pass0At (pf_cons (pf_var 0) (pf_cons (pf_int) (pf_nil)))) (pf_int) (nomark _))) (fun s H C cl fp => pf_var 7)) (pf_nil))))
    (pfs_one (pfs_ret (pf_tup (pf_cons (pf_tup (pf_cons (pf_str) (pf_cons (pf_var 6) (pf_nil)))) (pf_cons (pf_tup (pf_cons (pf_op fop_add (pf_var 3) (pf_int)) (pf_cons (pf_bty fb_tuple (T.free 91) bb_tuple (pf_cons (pf_blt fb_sorted (T.free 98) bb_sorted (pf_cons (pf_op fop_add (pf_bty fb_list (T.free 97) bb_list (pf_cons (pf_var 4) (pf_nil))) (pf_lc (own := [("place", 7)]) rfl sc.nd (pfi_seq (pf_var 6)) (blkOk_by (by rfl)) (fun s H C cl fp => pfg_nm sc.nd) (fun s H C cl fp => pfts_nil) (fun s H C cl fp => pf_tup (pf_cons (pf_var 7) (pf_cons (pf_var 3) (pf_nil)))))) (pf_nil))) (pf_nil))) (pf_nil)))) (pf_nil))))))) (pfs_nil))
    (pfs_cons (pfs_if (pft_W (pfw_or (pft_cmp (fop_lt hr.units0) (pf_var 3) (pf_int) (nomark _)) (pfw_or1 (pft_W (pfw_and (pft_cmp (fop_eq hr.u64) (pf_var 5) (pf_int) (nomark _)) (pfw_and1 (pft_cmp fop_gt (pf_var 3) (pf_int) (nomark _)))))))) (pfs_one (pfs_ret (pf_tup (pf_cons (pf_tup (pf_cons (pf_str) (pf_nil))) (pf_cons (pf_tup (pf_cons (pf_op fop_sub (pf_var 3) (pf_int)) (pf_cons (pf_bty fb_tuple (T.free 91) bb_tuple (pf_cons (pf_lc (own := [("tie", 8)]) rfl sc.nd (pfi_seq (pf_var 4)) (blkOk_by (by rfl)) (fun s H C cl fp => pfg_nm sc.nd) (fun s H C cl fp => pfts_one (pft_cmp (fop_lt hr.units0) (pf_ix fix_d (pf_var 8) (pf_int)) (pf_op fop_sub (pf_var 3) (pf_int)) (nomark _))) (fun s H C cl fp => pf_var 8)) (pf_nil))) (pf_nil)))) (pf_nil)))))) (pfs_nil))
    (pfs_cons (pfs_set (i := 9) sc.nd (pf_callD (ok__law_e_dip T) (hr.mono (by decide)) (fun σ => passAt (takes_of rfl rfl rfl rfl) σ) (pf_cons (pf_var 0) (pf_cons (pf_var 3) (pf_nil)))))
    (pfs_cons (pfs_set (i := 10) sc.nd (pf_op fop_mod (pf_op fop_add (pf_op fop_add (pf_var 9) (pf_int)) (pf_callD (ok__law_e_dip T) (hr.mono (by decide)) (fun σ => passAt (takes_of rfl rfl rfl rfl) σ) (pf_cons (pf_var 0) (pf_cons (pf_op fop_sub (pf_var 3) (pf_int)) (pf_nil))))) (pf_var 3)))
    (pfs_cons (pfs_set (i := 11) sc.nd (pf_tup (pf_cons (pf_blt (fb_min2 rfl) (T.free 103) bb_min (pf_cons (pf_var 9) (pf_cons (pf_var 10) (pf_nil)))) (pf_cons (pf_blt (fb_max2 rfl) (T.free 102) bb_max (pf_cons (pf_var 9) (pf_cons (pf_var 10) (pf_nil)))) (pf_nil)))))
    (pfs_cons (pfs_if (pft_cmp (fop_in hr.u65) (pf_var 11) (pf_var 4) (by rfl)) (pfs_one (pfs_ret (pf_tup (pf_cons (pf_tup (pf_cons (pf_str) (pf_cons (pf_var 9) (pf_cons (pf_var 10) (pf_nil))))) (pf_cons (pf_tup (pf_cons (pf_var 3) (pf_cons (pf_bty fb_tuple (T.free 91) bb_tuple (pf_cons (pf_lc (own := [("tie", 8)]) rfl sc.nd (pfi_seq (pf_var 4)) (blkOk_by (by rfl)) (fun s H C cl fp => pfg_nm sc.nd) (fun s H C cl fp => pfts_one (pft_cmp (fop_ne hr.u64) (pf_var 8) (pf_var 11) (nomark _))) (fun s H C cl fp => pf_var 8)) (pf_nil))) (pf_nil)))) (pf_nil)))))) (pfs_nil))
    (pfs_one (pfs_ret (pf_tup (pf_cons (pf_tup (pf_cons (pf_str) (pf_cons (pf_var 9) (pf_cons (pf_var 10) (pf_nil))))) (pf_cons (pf_tup (pf_cons (pf_var 3) (pf_cons (pf_bty fb_tuple (T.free 91) bb_tuple (pf_cons (pf_blt fb_sorted (T.free 98) bb_sorted (pf_cons (pf_op fop_add (pf_var 4) (pf_tup (pf_cons (pf_var 11) (pf_nil)))) (pf_nil))) (pf_nil))) (pf_nil)))) (pf_nil)))))))))))))
theorem sc_law : FnScope ["script", "cup", "bads", "bad", "k", "web", "sharing", "turn", "deed", "ahead", "due"] ["script"] (defScope s_law) := ⟨rfl, rfl, rfl, by decide +kernel, rfl, by decide +kernel, by decide +kernel⟩
theorem lawFn (T : TxOkQ fa fn exl K mg base) {f : Addr} {fd : FuncData} (F : FunD K "law" "law" (defArgs s_law) (defBody s_law) (defScope s_law) [] [] f fd) : FnOk P w K mg base (L2.CX P w) 23 f fd ["script"] (liftSp K mg (ioOf [false]) 1 m_law) := by
  refine okF (bd := b_law) (funOf F) sc_law (by decide) ?_
  intro cdv A outer s H vs E hr
  have sc := sc_law
  exact pfs_cons (pfs_set (i := 1) sc.nd (pf_lst (pf_cons (pf_var 0) (pf_cons (pf_int) (pf_cons (pf_int) (pf_nil))))))
    (pfs_cons (pfs_set (i := 2) sc.nd (pf_lst (pf_cons (pf_non) (pf_cons (pf_tup (pf_nil)) (pf_cons (pf_tup (pf_cons (pf_int) (pf_cons (pf_tup (pf_nil)) (pf_nil)))) (pf_cons (pf_tup (pf_cons (pf_int) (pf_cons (pf_tup (pf_cons (pf_tup (pf_cons (pf_int) (pf_cons (pf_int) (pf_nil)))) (pf_nil))) (pf_nil)))) (pf_cons (pf_tup (pf_cons (pf_int) (pf_cons (pf_tup (pf_cons (pf_tup (pf_cons (pf_int) (pf_cons (pf_int) (pf_nil)))) (pf_nil))) (pf_nil)))) (pf_cons (pf_lst (pf_cons (pf_int) (pf_cons (pf_tup (pf_nil)) (pf_nil)))) (pf_cons (pf_tup (pf_cons (pf_int) (pf_cons (pf_lst (pf_cons (pf_tup (pf_cons (pf_int) (pf_cons (pf_int) (pf_nil)))) (pf_nil))) (pf_nil)))) (pf_cons (pf_tup (pf_cons (pf_bl) (pf_cons (pf_tup (pf_nil)) (pf_nil)))) (pf_nil)))))))))))
    (pfs_cons (pfs_for (ws := [3]) (wp := [3]) (passes_of rfl) rfl (pfi_seq (pf_op fop_add (pf_var 2) (pf_lst (pf_cons (pf_tup (pf_cons (pf_int) (pf_cons (pf_tup (pf_cons (pf_tup (pf_cons (pf_int) (pf_cons (pf_int) (pf_nil)))) (pf_nil))) (pf_nil)))) (pf_nil))))) (pfg_nm sc.nd) (pfs_one (pfs_if (pft_cmp (fop_ne hr.u64) (pf_callD (ok__law_e_word T) (hr.mono (by decide)) (fun σ => passAt (takes_of rfl rfl rfl rfl) σ) (pf_cons (pf_non) (pf_cons (pf_var 3) (pf_nil)))) (pf_str) (nomark _)) (pfs_one (pfs_ret (pf_bl))) (pfs_nil))))
    (pfs_cons (pfs_for (ws := [4]) (wp := [4, 5, 6, 7, 8, 9, 10]) (passes_of rfl) rfl (pfi_range1 rfl (T.free 90) (pf_cons (pf_int) (pf_nil))) (pfg_nm sc.nd) (pfs_cons (pfs_if (pft_W (pfw_and (pft_cmp fop_gt (pf_var 4) (pf_int) (nomark _)) (pfw_and1 (pft_cmp fop_ge (pf_ix fix_d (pf_var 1) (pf_int)) (pf_blt fb_len (T.free 89) bb_len (pf_cons (pf_var 0) (pf_nil))) (nomark _))))) (pfs_one (pfs_break)) (pfs_nil))
    (pfs_cons (pfs_set (i := 5) sc.nd (pf_callD (ok__law_e_web T) (hr.mono (by decide)) (fun σ => passAt (takes_of rfl rfl rfl rfl) σ) (pf_cons (pf_var 1) (pf_cons (pf_int) (pf_nil)))))
    (pfs_cons (pfs_if (pft_cmp (fop_eq hr.u64) (pf_var 4) (pf_int) (nomark _)) (pfs_one (pfs_set (i := 5) sc.nd (pf_ix fix_d (pf_lst (pf_cons (pf_tup (pf_cons (pf_int) (pf_cons (pf_tup (pf_nil)) (pf_nil)))) (pf_cons (pf_callD (ok__law_e_web_of T) (hr.mono (by decide)) (fun σ => passAt (takes_of rfl rfl rfl rfl) σ) (pf_cons (pf_var 1) (pf_cons (pf_ix fix_d (pf_lst (pf_cons (pf_int) (pf_cons (pf_int) (pf_cons (pf_int) (pf_cons (pf_int) (pf_cons (pf_int) (pf_cons (pf_int) (pf_nil)))))))) (pf_callD (ok__law_e_dip T) (hr.mono (by decide)) (fun σ => passAt (takes_of rfl rfl rfl rfl) σ) (pf_cons (pf_var 1) (pf_cons (pf_int) (pf_nil))))) (pf_nil)))) (pf_nil)))) (pf_callD (ok__law_e_dip T) (hr.mono (by decide)) (fun σ => passAt (takes_of rfl rfl rfl rfl) σ) (pf_cons (pf_var 1) (pf_cons (pf_int) (pf_nil))))))) (pfs_nil))
    (pfs_cons (pfs_set (i := 6) sc.nd (pf_mkC (c := "Sharing") (ok_Sharing_init T) (T.mkr 68) (T.glo 69) (hr.mono (by decide)) (fun σ => passAt (takes_of rfl rfl rfl rfl) σ) (pf_cons (pf_var 5) (pf_nil))))
    (pfs_cons (pfs_if (pft_cmp fop_gt (pf_var 4) (pf_int) (nomark _)) (pfs_one (pfs_for (ws := [7]) (wp := [7, 8]) (passes_of rfl) rfl (pfi_range1 rfl (T.free 90) (pf_cons (pf_callD (ok__law_e_dip T) (hr.mono (by decide)) (fun σ => passAt (takes_of rfl rfl rfl rfl) σ) (pf_cons (pf_var 1) (pf_cons (pf_int) (pf_nil)))) (pf_nil))) (pfg_nm sc.nd) (pfs_cons (pfs_unp (ws := [8, 5]) (pf_callD (ok__law_e_next T) (hr.mono (by decide)) (fun σ => passAt (takes_of rfl rfl rfl rfl) σ) (pf_cons (pf_var 1) (pf_cons (pf_var 5) (pf_cons (pf_int) (pf_nil))))) (pfg_tup rfl (pfgs_cons (pfg_nm sc.nd) (pfgs_cons (pfg_nm sc.nd) (pfgs_nil))) rfl rfl tp2))
    (pfs_one (pfs_expr (pf_callD (ok__law_e_do T) (hr.mono (by decide)) (fun σ => passAt (takes_of rfl rfl rfl rfl) σ) (pf_cons (pf_var 6) (pf_cons (pf_var 8) (pf_nil))))))))) (pfs_nil))
    (pfs_cons (pfs_set (i := 9) sc.nd (pf_callD (ok__law_e_told T) (hr.mono (by decide)) (fun σ => passAt (takes_of rfl rfl rfl rfl) σ) (pf_cons (pf_var 6) (pf_nil))))
    (pfs_one (pfs_for (ws := [8, 10]) (wp := [8, 10]) (passes_of rfl) rfl (pfi_seq (pf_callD (ok__law_e_refused T) (hr.mono (by decide)) (fun σ => passAt (takes_of rfl rfl rfl rfl) σ) (pf_cons (pf_var 1) (pf_cons (pf_var 5) (pf_nil))))) (pfg_tup rfl (pfgs_cons (pfg_nm sc.nd) (pfgs_cons (pfg_nm sc.nd) (pfgs_nil))) rfl rfl tp2) (pfs_one (pfs_if (pft_W (pfw_or (pft_cmp (fop_ne hr.u64) (pf_callD (ok__law_e_word T) (hr.mono (by decide)) (fun σ => passAt (takes_of rfl rfl rfl rfl) σ) (pf_cons (pf_var 6) (pf_cons (pf_var 8) (pf_nil)))) (pf_var 10) (nomark _)) (pfw_or1 (pft_cmp (fop_ne hr.u64) (pf_callD (ok__law_e_told T) (hr.mono (by decide)) (fun σ => passAt (takes_of rfl rfl rfl rfl) σ) (pf_cons (pf_var 6) (pf_nil))) (pf_var 9) (nomark _))))) (pfs_one (pfs_ret (pf_bl))) (pfs_nil))))))))))))
    (pfs_one (pfs_ret (pf_bl))))))
end
end Lk51
namespace Lk51
open PySem PySem.Spec PyProof.Rows L2 Hs
theorem facts {P : Program} {w : World} {K : PySem.W.Frag} {h : Heap} {mg : Str → Option Value} {f : Addr} (X : K.In h) (G : h.Ns mainGlobals mg) (hfa : mg ("law" : Str) = some (.ref f)) (c : He.SaysD fa fn K) (ce : (exl.all fun e => e.ok K) = true) :
    ∃ fd : FuncData, (∀ (s : Shared) (u : Value), BindsTo s fd ⟨[u], []⟩ [("script", u)]) ∧ ∀ base : Heap, K.In base → base.Ns mainGlobals mg → FnOk P w K mg base (L2.CX P w) 23 f fd ["script"] (liftSp K mg (ioOf [false]) 1 m_law) := by
  obtain ⟨fd, F⟩ := c.def_ 54 (d := dOf "law" s_law) rfl
  have T0 : TxOkQ fa fn exl K mg h := ⟨⟨c, X, G⟩, ce⟩
  have e := hfa.symm.trans (T0.glo 34)
  cases e
  have b := FunD.bindsA (ps := ["script"]) F fun _ _ _ _ _ _ us hl => match us, hl with | [_], _ => rfl
  refine ⟨fd, fun s u => b s [u] rfl, fun base hX hG => ?_⟩
  exact lawFn ⟨⟨c, hX, hG⟩, ce⟩ F
end Lk51
namespace Lk51
open PySem Hs
local macro_rules
  | `(tactic| sizeOf_list_dec) => `(tactic| first
    | with_reducible refine st_seq ?_ | with_reducible refine st_asg ?_ | with_reducible refine st_cons ?_ | with_reducible refine st_nil ?_ | with_reducible refine st_C ?_ | with_reducible refine st_op ?_
    | with_reducible refine st_var_d ?_ | with_reducible refine st_var_l ?_ | with_reducible refine st_var_ll ?_ | with_reducible refine st_var_dc ?_
    | with_reducible refine st_look_d ?_ | with_reducible refine st_look_top ?_ | with_reducible refine st_look_top_d ?_ | with_reducible refine st_look_own ?_ | with_reducible refine st_look_top_dc ?_ | with_reducible refine st_look_own_dc ?_ | with_reducible refine st_put_d ?_ | with_reducible refine st_put_own ?_ | with_reducible refine st_put_top_l ?_ | with_reducible refine st_put_top_ll ?_ | with_reducible refine st_put_top_dc ?_
    | ((with_reducible refine st_callF ?_ ?_); eq_refl) | with_reducible refine st_call ?_ | with_reducible refine st_putK_nil ?_ | with_reducible refine st_putK_t ?_ | with_reducible refine st_putK_f ?_ | with_reducible refine st_putK_td ?_ | with_reducible refine st_putK_to ?_ | with_reducible refine st_bind_nil ?_ | with_reducible refine st_bind_f ?_ | with_reducible refine st_bind_tt ?_ | with_reducible refine st_bind_td ?_ | with_reducible refine st_bind_to ?_
    | with_reducible refine st_frz_d ?_ | with_reducible refine st_frz_own ?_ | with_reducible refine st_frz_top ?_ | with_reducible refine st_frz_own_ll ?_ | with_reducible refine st_frz_own_dc ?_ | with_reducible refine st_frz_top_ll ?_ | with_reducible refine st_frz_top_dc ?_ | with_reducible refine st_frzAll_nil ?_ | with_reducible refine st_frzAll_cons ?_
    | with_reducible refine st_if ?_ | with_reducible refine st_B ?_ | with_reducible refine st_and ?_ | with_reducible refine st_or ?_ | with_reducible refine st_not ?_ | with_reducible refine st_yes ?_ | with_reducible refine st_isB ?_ | with_reducible refine st_t ?_ | with_reducible refine st_f ?_ | ((with_reducible refine st_iteT ?_ ?_); decide) | ((with_reducible refine st_iteF ?_ ?_); decide)
    | with_reducible refine st_nt ?_ | with_reducible refine st_nf ?_
    | with_reducible refine st_ret ?_ | with_reducible refine st_next ?_ | with_reducible refine st_retN ?_ | with_reducible refine st_drop ?_ | with_reducible refine st_break ?_ | with_reducible refine st_raise ?_
    | with_reducible refine st_out_d ?_ | with_reducible refine st_out_own ?_ | with_reducible refine st_out_top ?_
    | with_reducible refine st_tup ?_ | with_reducible refine st_lst ?_ | with_reducible refine st_un ?_ | with_reducible refine st_blt ?_ | with_reducible refine st_lookAll_nil ?_ | with_reducible refine st_lookAll_cons ?_
    | with_reducible refine st_unp ?_ | with_reducible refine st_par ?_ | with_reducible refine st_setIx ?_ | with_reducible refine st_onL ?_ | with_reducible refine st_for ?_ | with_reducible refine st_wipe_nil ?_ | with_reducible refine st_wipe_cons ?_ | with_reducible refine st_andV ?_ | with_reducible refine st_orV ?_ | with_reducible refine st_notV ?_ | with_reducible refine st_ifE ?_ | with_reducible refine st_chain ?_
    | with_reducible refine st_sl ?_ | with_reducible refine st_noPart ?_ | with_reducible refine st_part ?_ | with_reducible refine st_lc ?_ | with_reducible refine st_lm ?_
    | with_reducible refine st_seqI ?_ | with_reducible refine st_range1 ?_ | with_reducible refine st_range2 ?_ | with_reducible refine st_enum ?_ | with_reducible refine st_zip ?_
    | with_reducible refine st_nm ?_ | with_reducible refine st_tp ?_ | with_reducible refine st_tps_nil ?_ | with_reducible refine st_tps_cons ?_
    | ((with_reducible refine st_mod_i ?_ ?_); (first | decide | omega)) | ((with_reducible refine st_fdiv_i ?_ ?_); decide) 
    | with_reducible refine st_add_i ?_ | with_reducible refine st_sub_i ?_ | with_reducible refine st_neg_i ?_ | with_reducible refine st_eq_i ?_ | with_reducible refine st_ne_i ?_ | with_reducible refine st_eq_str ?_ | with_reducible refine st_ne_str ?_ | with_reducible refine st_eq_b ?_ | with_reducible refine st_ne_b ?_ | with_reducible refine st_lt_i ?_ | with_reducible refine st_le_i ?_ | with_reducible refine st_gt_i ?_ | with_reducible refine st_ge_i ?_
    | with_reducible refine st_is_n ?_ | with_reducible refine st_isNot_n ?_ | with_reducible refine st_is_b ?_ | with_reducible refine st_isNot_b ?_ | ((with_reducible refine st_ix_l (x := ?_) ?_ ?_); rotate_left; eq_refl) | ((with_reducible refine st_ix_t (x := ?_) ?_ ?_); rotate_left; eq_refl) | with_reducible refine st_len_l ?_ | with_reducible refine st_len_t ?_ | with_reducible refine st_len_lit ?_
    | with_reducible refine st_abs ?_ | with_reducible refine st_max2 ?_ | with_reducible refine st_min2 ?_ | with_reducible refine st_int_i ?_ | with_reducible refine st_int_b ?_ | with_reducible refine st_tuple_l ?_ | with_reducible refine st_tuple_t ?_ | with_reducible refine st_list_l ?_ | with_reducible refine st_list_t ?_ | ((with_reducible refine st_isT ?_ ?_); eq_refl) | ((with_reducible refine st_isTT ?_ ?_); eq_refl) | ((with_reducible refine st_isTF ?_ ?_); eq_refl) | ((with_reducible refine st_isNT ?_ ?_); eq_refl) | ((with_reducible refine st_isNF ?_ ?_); eq_refl)
    | with_reducible refine st_rg1 ?_ | with_reducible refine st_rg2 ?_ | with_reducible refine st_enumL ?_ | with_reducible refine st_zipS ?_ | with_reducible refine st_rev_l ?_ | with_reducible refine st_rev_t ?_
    | with_reducible refine st_ne_ll ?_ | with_reducible refine st_ne_lit ?_ | with_reducible refine st_in_pt ?_ | with_reducible refine st_in_pl ?_
    | with_reducible refine st_sl_l ?_ | with_reducible refine st_sl_t ?_
    | ((with_reducible refine st_iteLen ?_ ?_); eq_refl) | ((with_reducible refine st_iteNLen ?_ ?_); eq_refl) | with_reducible refine st_iteBB ?_ | ((with_reducible refine st_iteND ?_ ?_); omega) | ((with_reducible refine st_iteNF ?_ ?_); omega)
    | ((with_reducible refine st_iteT (decide_eq_true ?_) ?_); omega) | ((with_reducible refine st_iteF (decide_eq_false ?_) ?_); omega))
local macro_rules
  | `(tactic| sizeOf_list_dec) => `(tactic| with_reducible refine stepTo ?_)
local macro_rules
  | `(tactic| array_get_dec) => `(tactic| repeat sizeOf_list_dec)
local macro_rules
  | `(tactic| sizeOf_list_dec) => `(tactic| first | with_reducible refine st_ix2_l ?_ | with_reducible refine st_ix2_t ?_ | with_reducible refine st_ix2_s ?_ | with_reducible refine st_ix2_lit ?_ | with_reducible refine st_inK_l ?_ | with_reducible refine st_inK_t ?_ | with_reducible refine st_ninK_l ?_ | with_reducible refine st_ninK_t ?_ | with_reducible refine st_setD ?_ | with_reducible refine st_onDc ?_ | with_reducible refine st_dget2 ?_ | with_reducible refine st_emT ?_ | with_reducible refine st_emD ?_ | with_reducible refine st_disp1 ?_ | with_reducible refine st_disp1k ?_ | with_reducible refine st_range3 ?_ | with_reducible refine st_bor ?_ | with_reducible refine st_borT ?_ | with_reducible refine st_bindT_nil ?_ | with_reducible refine st_bindT_d ?_ | with_reducible refine st_bindT_o ?_ | with_reducible refine st_bindT_t ?_ | with_reducible refine st_toPs_nil ?_ | with_reducible refine st_toPs_d ?_ | with_reducible refine st_toPs_l ?_ | with_reducible refine st_toPs_dc ?_ | with_reducible refine st_tupO ?_ | with_reducible refine st_var_tp ?_ | with_reducible refine st_frz_own_tp ?_ | with_reducible refine st_frz_top_tp ?_ | with_reducible refine st_lmP ?_ | ((with_reducible refine st_onP ?_ ?_); eq_refl) | with_reducible refine st_flat_b ?_ | with_reducible refine st_flat_i ?_)
instance sn0 : StrNe "places" "many" := ⟨by decide +kernel⟩
instance sn1 : StrNe "places" "common" := ⟨by decide +kernel⟩
instance sn2 : StrNe "places" "rows" := ⟨by decide +kernel⟩
instance sn3 : StrNe "places" "below" := ⟨by decide +kernel⟩
instance sn4 : StrNe "places" "at_work" := ⟨by decide +kernel⟩
instance sn5 : StrNe "places" "entering" := ⟨by decide +kernel⟩
instance sn6 : StrNe "places" "leaving" := ⟨by decide +kernel⟩
instance sn7 : StrNe "places" "bounds_more" := ⟨by decide +kernel⟩
instance sn8 : StrNe "places" "cleared" := ⟨by decide +kernel⟩
instance sn9 : StrNe "places" "turn" := ⟨by decide +kernel⟩
instance sn10 : StrNe "places" "finish" := ⟨by decide +kernel⟩
instance sn11 : StrNe "places" "prices" := ⟨by decide +kernel⟩
instance sn12 : StrNe "places" "share" := ⟨by decide +kernel⟩
instance sn13 : StrNe "many" "places" := ⟨by decide +kernel⟩
instance sn14 : StrNe "many" "common" := ⟨by decide +kernel⟩
instance sn15 : StrNe "many" "rows" := ⟨by decide +kernel⟩
instance sn16 : StrNe "many" "below" := ⟨by decide +kernel⟩
instance sn17 : StrNe "many" "at_work" := ⟨by decide +kernel⟩
instance sn18 : StrNe "many" "entering" := ⟨by decide +kernel⟩
instance sn19 : StrNe "many" "leaving" := ⟨by decide +kernel⟩
instance sn20 : StrNe "many" "bounds_more" := ⟨by decide +kernel⟩
instance sn21 : StrNe "many" "cleared" := ⟨by decide +kernel⟩
instance sn22 : StrNe "many" "turn" := ⟨by decide +kernel⟩
instance sn23 : StrNe "many" "finish" := ⟨by decide +kernel⟩
instance sn24 : StrNe "many" "prices" := ⟨by decide +kernel⟩
instance sn25 : StrNe "many" "share" := ⟨by decide +kernel⟩
instance sn26 : StrNe "common" "places" := ⟨by decide +kernel⟩
instance sn27 : StrNe "common" "many" := ⟨by decide +kernel⟩
instance sn28 : StrNe "common" "rows" := ⟨by decide +kernel⟩
instance sn29 : StrNe "common" "below" := ⟨by decide +kernel⟩
instance sn30 : StrNe "common" "at_work" := ⟨by decide +kernel⟩
instance sn31 : StrNe "common" "entering" := ⟨by decide +kernel⟩
instance sn32 : StrNe "common" "leaving" := ⟨by decide +kernel⟩
instance sn33 : StrNe "common" "bounds_more" := ⟨by decide +kernel⟩
instance sn34 : StrNe "common" "cleared" := ⟨by decide +kernel⟩
instance sn35 : StrNe "common" "turn" := ⟨by decide +kernel⟩
instance sn36 : StrNe "common" "finish" := ⟨by decide +kernel⟩
instance sn37 : StrNe "common" "prices" := ⟨by decide +kernel⟩
instance sn38 : StrNe "common" "share" := ⟨by decide +kernel⟩
instance sn39 : StrNe "rows" "places" := ⟨by decide +kernel⟩
instance sn40 : StrNe "rows" "many" := ⟨by decide +kernel⟩
instance sn41 : StrNe "rows" "common" := ⟨by decide +kernel⟩
instance sn42 : StrNe "rows" "below" := ⟨by decide +kernel⟩
instance sn43 : StrNe "rows" "at_work" := ⟨by decide +kernel⟩
instance sn44 : StrNe "rows" "entering" := ⟨by decide +kernel⟩
instance sn45 : StrNe "rows" "leaving" := ⟨by decide +kernel⟩
instance sn46 : StrNe "rows" "bounds_more" := ⟨by decide +kernel⟩
instance sn47 : StrNe "rows" "cleared" := ⟨by decide +kernel⟩
instance sn48 : StrNe "rows" "turn" := ⟨by decide +kernel⟩
instance sn49 : StrNe "rows" "finish" := ⟨by decide +kernel⟩
instance sn50 : StrNe "rows" "prices" := ⟨by decide +kernel⟩
instance sn51 : StrNe "rows" "share" := ⟨by decide +kernel⟩
instance sn52 : StrNe "below" "places" := ⟨by decide +kernel⟩
instance sn53 : StrNe "below" "many" := ⟨by decide +kernel⟩
instance sn54 : StrNe "below" "common" := ⟨by decide +kernel⟩
instance sn55 : StrNe "below" "rows" := ⟨by decide +kernel⟩
instance sn56 : StrNe "below" "at_work" := ⟨by decide +kernel⟩
instance sn57 : StrNe "below" "entering" := ⟨by decide +kernel⟩
instance sn58 : StrNe "below" "leaving" := ⟨by decide +kernel⟩
instance sn59 : StrNe "below" "bounds_more" := ⟨by decide +kernel⟩
instance sn60 : StrNe "below" "cleared" := ⟨by decide +kernel⟩
instance sn61 : StrNe "below" "turn" := ⟨by decide +kernel⟩
instance sn62 : StrNe "below" "finish" := ⟨by decide +kernel⟩
instance sn63 : StrNe "below" "prices" := ⟨by decide +kernel⟩
instance sn64 : StrNe "below" "share" := ⟨by decide +kernel⟩
instance sn65 : StrNe "at_work" "places" := ⟨by decide +kernel⟩
instance sn66 : StrNe "at_work" "many" := ⟨by decide +kernel⟩
instance sn67 : StrNe "at_work" "common" := ⟨by decide +kernel⟩
instance sn68 : StrNe "at_work" "rows" := ⟨by decide +kernel⟩
instance sn69 : StrNe "at_work" "below" := ⟨by decide +kernel⟩
instance sn70 : StrNe "at_work" "entering" := ⟨by decide +kernel⟩
instance sn71 : StrNe "at_work" "leaving" := ⟨by decide +kernel⟩
instance sn72 : StrNe "at_work" "bounds_more" := ⟨by decide +kernel⟩
instance sn73 : StrNe "at_work" "cleared" := ⟨by decide +kernel⟩
instance sn74 : StrNe "at_work" "turn" := ⟨by decide +kernel⟩
instance sn75 : StrNe "at_work" "finish" := ⟨by decide +kernel⟩
instance sn76 : StrNe "at_work" "prices" := ⟨by decide +kernel⟩
instance sn77 : StrNe "at_work" "share" := ⟨by decide +kernel⟩
local macro_rules
  | `(tactic| sizeOf_list_dec) => `(tactic| first | with_reducible refine st_fld_d ?_ | with_reducible refine st_fld_ob ?_ | with_reducible refine st_var_ob ?_ | with_reducible refine st_toPV_d ?_ | with_reducible refine st_toPV_l ?_ | with_reducible refine st_toPV_top_l ?_ | ((with_reducible refine st_obSet ?_ ?_); (exact Nat.le_of_ble_eq_true rfl)) | with_reducible refine st_setF ?_ | with_reducible refine st_setFI ?_ | with_reducible refine st_lmF ?_ | with_reducible refine st_meth_ob ?_ | with_reducible refine st_meth_d ?_ | with_reducible refine st_make ?_ | with_reducible refine st_mkK ?_ | with_reducible refine st_ixP ?_ | with_reducible refine st_zipM ?_)
section
variable {nx bk ct : S → Prop} {rt : R → S → Prop} {X xx : XF} {s s' s'' s3 : S} {a b : FE} {fr : FA} {Q : R → S → Prop} {i j l : Nat} {x y z : D} {xs : List D} {c f m : Str} {fs fs' : List (Str × PV)}
theorem st_gFld {k : S → Prop} [g : Get s i (.ob c fs)] [p : PPut f (.d x) fs fs'] [q : Put s i (.ob c fs') s'] (hl : fs.length < 1000) (h : k s') : gFld c i f x s k := by
  unfold gFld
  refine st_onOb ⟨hl, ?_⟩
  rw [p.e, q.e]
  exact h
def par3K (i j l : Nat) (ds : List D) (s : S) (k : S → Prop) : Prop := match ds with
  | [d1, d2, d3] => k (((s.set i (.d d1)).set j (.d d2)).set l (.d d3))
  | _ => False
theorem st_par3 (h : fr xx s fun rs s2 => frzAll rs s2 fun ds s3 => par3K i j l ds s3 nx) : fPar3 i j l fr ⟨nx, rt, bk, ct, xx⟩ s := h
theorem st_par3K {k : S → Prop} [p : Put s i (.d x) s'] [q : Put s' j (.d y) s''] [r : Put s'' l (.d z) s3] (h : k s3) : par3K i j l [x, y, z] s k := by
  unfold par3K
  dsimp only
  rw [p.e, q.e, r.e]
  exact h
theorem st_lmT {g : LM} (h : a X s fun ro s1 => onOwnL ro fun xs => fr X s1 fun rs s2 => onDs rs fun ds => g xs ds fun d _ => Q (.d d) s2) : fLmT g a fr X s Q := h
theorem st_onOwnL {k : List D → Prop} (h : k xs) : onOwnL (.own (.l xs)) k := h
theorem st_onDs_nil {k : List D → Prop} (h : k []) : onDs [] k := h
theorem st_onDs_cons {k : List D → Prop} {rs : List R} (h : onDs rs fun ds => k (x :: ds)) : onDs (.d x :: rs) k := h
theorem st_clearT {k : D → List D → Prop} (h : k .none []) : mClear xs [] k := h
end
instance shn0 : StrNe "now" "count" := ⟨by decide +kernel⟩
instance shn1 : StrNe "now" "least" := ⟨by decide +kernel⟩
instance shn2 : StrNe "now" "laid" := ⟨by decide +kernel⟩
instance shn3 : StrNe "now" "costs" := ⟨by decide +kernel⟩
instance shn4 : StrNe "now" "web" := ⟨by decide +kernel⟩
instance shn5 : StrNe "now" "value" := ⟨by decide +kernel⟩
instance shn6 : StrNe "now" "laying" := ⟨by decide +kernel⟩
instance shn7 : StrNe "now" "prices" := ⟨by decide +kernel⟩
instance shn8 : StrNe "now" "again" := ⟨by decide +kernel⟩
instance shn9 : StrNe "now" "need_pair" := ⟨by decide +kernel⟩
instance shn10 : StrNe "now" "change" := ⟨by decide +kernel⟩
instance shn11 : StrNe "now" "put" := ⟨by decide +kernel⟩
instance shn12 : StrNe "now" "tie" := ⟨by decide +kernel⟩
instance shn13 : StrNe "now" "untie" := ⟨by decide +kernel⟩
instance shn14 : StrNe "now" "drop" := ⟨by decide +kernel⟩
instance shn15 : StrNe "count" "now" := ⟨by decide +kernel⟩
instance shn16 : StrNe "count" "least" := ⟨by decide +kernel⟩
instance shn17 : StrNe "count" "laid" := ⟨by decide +kernel⟩
instance shn18 : StrNe "count" "costs" := ⟨by decide +kernel⟩
instance shn19 : StrNe "count" "web" := ⟨by decide +kernel⟩
instance shn20 : StrNe "count" "value" := ⟨by decide +kernel⟩
instance shn21 : StrNe "count" "laying" := ⟨by decide +kernel⟩
instance shn22 : StrNe "count" "prices" := ⟨by decide +kernel⟩
instance shn23 : StrNe "count" "again" := ⟨by decide +kernel⟩
instance shn24 : StrNe "count" "need_pair" := ⟨by decide +kernel⟩
instance shn25 : StrNe "count" "change" := ⟨by decide +kernel⟩
instance shn26 : StrNe "count" "put" := ⟨by decide +kernel⟩
instance shn27 : StrNe "count" "tie" := ⟨by decide +kernel⟩
instance shn28 : StrNe "count" "untie" := ⟨by decide +kernel⟩
instance shn29 : StrNe "count" "drop" := ⟨by decide +kernel⟩
instance shn30 : StrNe "least" "now" := ⟨by decide +kernel⟩
instance shn31 : StrNe "least" "count" := ⟨by decide +kernel⟩
instance shn32 : StrNe "least" "laid" := ⟨by decide +kernel⟩
instance shn33 : StrNe "least" "costs" := ⟨by decide +kernel⟩
instance shn34 : StrNe "least" "web" := ⟨by decide +kernel⟩
instance shn35 : StrNe "least" "value" := ⟨by decide +kernel⟩
instance shn36 : StrNe "least" "laying" := ⟨by decide +kernel⟩
instance shn37 : StrNe "least" "prices" := ⟨by decide +kernel⟩
instance shn38 : StrNe "least" "again" := ⟨by decide +kernel⟩
instance shn39 : StrNe "least" "need_pair" := ⟨by decide +kernel⟩
instance shn40 : StrNe "least" "change" := ⟨by decide +kernel⟩
instance shn41 : StrNe "least" "put" := ⟨by decide +kernel⟩
instance shn42 : StrNe "least" "tie" := ⟨by decide +kernel⟩
instance shn43 : StrNe "least" "untie" := ⟨by decide +kernel⟩
instance shn44 : StrNe "least" "drop" := ⟨by decide +kernel⟩
instance shn45 : StrNe "laid" "now" := ⟨by decide +kernel⟩
instance shn46 : StrNe "laid" "count" := ⟨by decide +kernel⟩
instance shn47 : StrNe "laid" "least" := ⟨by decide +kernel⟩
instance shn48 : StrNe "laid" "costs" := ⟨by decide +kernel⟩
instance shn49 : StrNe "laid" "web" := ⟨by decide +kernel⟩
instance shn50 : StrNe "laid" "value" := ⟨by decide +kernel⟩
instance shn51 : StrNe "laid" "laying" := ⟨by decide +kernel⟩
instance shn52 : StrNe "laid" "prices" := ⟨by decide +kernel⟩
instance shn53 : StrNe "laid" "again" := ⟨by decide +kernel⟩
instance shn54 : StrNe "laid" "need_pair" := ⟨by decide +kernel⟩
instance shn55 : StrNe "laid" "change" := ⟨by decide +kernel⟩
instance shn56 : StrNe "laid" "put" := ⟨by decide +kernel⟩
instance shn57 : StrNe "laid" "tie" := ⟨by decide +kernel⟩
instance shn58 : StrNe "laid" "untie" := ⟨by decide +kernel⟩
instance shn59 : StrNe "laid" "drop" := ⟨by decide +kernel⟩
instance shn60 : StrNe "costs" "now" := ⟨by decide +kernel⟩
instance shn61 : StrNe "costs" "count" := ⟨by decide +kernel⟩
instance shn62 : StrNe "costs" "least" := ⟨by decide +kernel⟩
instance shn63 : StrNe "costs" "laid" := ⟨by decide +kernel⟩
instance shn64 : StrNe "costs" "web" := ⟨by decide +kernel⟩
instance shn65 : StrNe "costs" "value" := ⟨by decide +kernel⟩
instance shn66 : StrNe "costs" "laying" := ⟨by decide +kernel⟩
instance shn67 : StrNe "costs" "prices" := ⟨by decide +kernel⟩
instance shn68 : StrNe "costs" "again" := ⟨by decide +kernel⟩
instance shn69 : StrNe "costs" "need_pair" := ⟨by decide +kernel⟩
instance shn70 : StrNe "costs" "change" := ⟨by decide +kernel⟩
instance shn71 : StrNe "costs" "put" := ⟨by decide +kernel⟩
instance shn72 : StrNe "costs" "tie" := ⟨by decide +kernel⟩
instance shn73 : StrNe "costs" "untie" := ⟨by decide +kernel⟩
instance shn74 : StrNe "costs" "drop" := ⟨by decide +kernel⟩
local macro_rules
  | `(tactic| sizeOf_list_dec) => `(tactic| first | ((with_reducible refine st_gFld ?_ ?_); (exact Nat.le_of_ble_eq_true rfl)) | with_reducible refine st_par3 ?_ | with_reducible refine st_par3K ?_ | with_reducible refine st_lmT ?_ | with_reducible refine st_onOwnL ?_ | with_reducible refine st_onDs_nil ?_ | with_reducible refine st_onDs_cons ?_ | with_reducible refine st_clearT ?_)
local macro_rules
  | `(tactic| sizeOf_list_dec) => `(tactic| first | ((with_reducible refine st_isX (b := false) ?_ ?_); (decide +kernel)) | ((with_reducible refine st_isX (b := true) ?_ ?_); (decide +kernel)) | with_reducible refine st_try ?_)
theorem is_whole_ok {z : Int} {X : XF} {Q : R → S → Prop} (h : ∀ fin, Q (.d (.bool true)) fin) : m_is_whole [.d (.int z)] X Q := by
  unfold m_is_whole b_is_whole
  refine st_sem rfl ?_
  array_get_dec
  exact h _
local macro_rules
  | `(tactic| sizeOf_list_dec) => `(tactic| with_reducible refine is_whole_ok fun _ => ?_)
theorem is_below_ok {z m : Int} {X : XF} {Q : R → S → Prop} (h : ∀ fin, Q (.d (.bool (decide (0 ≤ z ∧ z < m)))) fin) : m_is_below [.d (.int z), .d (.int m)] X Q := by
  unfold m_is_below b_is_below
  refine st_sem rfl ?_
  array_get_dec
  refine st_ite (fun q => ?_) (fun q => ?_)
  · have q := of_decide_eq_true q
    array_get_dec
    rw [show decide (z < m) = decide (0 ≤ z ∧ z < m) by simp [q]]
    exact h _
  · have q := of_decide_eq_false q
    array_get_dec
    rw [show false = decide (0 ≤ z ∧ z < m) by simp [q]]
    exact h _
theorem is_tie_ok {n : Int} {p : Int × Int} (hp : 0 ≤ p.1 ∧ p.1 < p.2 ∧ p.2 < n) {X : XF} {Q : R → S → Prop} (h : ∀ fin, Q (.d (.bool true)) fin) : m_is_tie [.d (.int n), .d (pairD p)] X Q := by
  unfold m_is_tie b_is_tie
  refine st_sem rfl ?_
  array_get_dec
  refine is_below_ok fun fin => ?_
  rw [decide_eq_true (show 0 ≤ p.1 ∧ p.1 < n by omega)]
  array_get_dec
  refine is_below_ok fun fin => ?_
  rw [decide_eq_true (show 0 ≤ p.2 ∧ p.2 < n by omega)]
  array_get_dec
  rw [decide_eq_true hp.2.1]
  exact h _
theorem is_rising_ok {ts : List (Int × Int)} (hs : ts.Pairwise (fun p q => ltPr p q = true)) (hl : ts.length ≤ 1000) {X : XF} {Q : R → S → Prop} (h : ∀ fin, Q (.d (.bool true)) fin) : m_is_rising [.d (.tuple (ts.map pairD))] X Q := by
  unfold m_is_rising b_is_rising
  refine st_sem rfl ?_
  array_get_dec
  rw [List.length_map]
  refine ⟨by unfold lim62; omega, ?_⟩
  array_get_dec
  refine ⟨by rw [rangeD_len]; show _ ≤ 16777216; omega, ?_⟩
  array_get_dec
  refine comp_true (fun x hx kT hk => ?_) ?_
  · obtain ⟨t, ht, rfl⟩ := List.mem_map.mp (show x ∈ (List.range ((ts.length : Int) - 1).toNat).map fun (k : Nat) => PyData.int (0 + (k : Int)) from hx)
    have ht := List.mem_range.mp ht
    have h1 : t < ts.length := by omega
    have h2 : t + 1 < ts.length := by omega
    have g1 : L2.atI (ts.map pairD) (0 + (t : Int)) = some (pairD ts[t]) := by
      rw [Int.zero_add]
      exact L2.atI_nat (by rw [List.getElem?_map, List.getElem?_eq_getElem h1]; rfl)
    have g2 : L2.atI (ts.map pairD) (0 + (t : Int) + 1) = some (pairD ts[t + 1]) := by
      rw [Int.zero_add]
      exact L2.atI_nat (j := t + 1) (by rw [List.getElem?_map, List.getElem?_eq_getElem h2]; rfl)
    array_get_dec
    refine st_ix_t g1 ?_
    array_get_dec
    refine st_ix_t g2 ?_
    array_get_dec
    refine st_lt_t (ns := [ts[t].1, ts[t].2]) (ms := [ts[t + 1].1, ts[t + 1].2]) rfl rfl ?_
    rw [lex_pair, List.pairwise_iff_getElem.mp hs t (t + 1) h1 h2 (Nat.lt_succ_self t)]
    array_get_dec
    exact hk
  · array_get_dec
    refine st_all_true ?_
    array_get_dec
    exact h _
theorem are_ties_ok {n : Int} {ts : List (Int × Int)} (g : Good n ts) {X : XF} {Q : R → S → Prop} (h : ∀ fin, Q (.d (.bool true)) fin) : m_are_ties [.d (.int n), .d (.tuple (ts.map pairD))] X Q := by
  unfold m_are_ties b_are_ties
  refine st_sem rfl ?_
  array_get_dec
  refine ⟨by rw [List.length_map]; have := g.few; show _ ≤ 16777216; omega, ?_⟩
  array_get_dec
  refine comp_true (fun x hx kT hk => ?_) ?_
  · obtain ⟨p, hp, rfl⟩ := List.mem_map.mp hx
    array_get_dec
    refine is_tie_ok (g.ties p hp) fun fin => ?_
    array_get_dec
    exact hk
  · array_get_dec
    refine st_all_true ?_
    array_get_dec
    refine is_rising_ok g.up g.few fun fin => ?_
    array_get_dec
    exact h _
theorem is_web_ok {n : Int} {ts : List (Int × Int)} (g : Good n ts) {X : XF} {Q : R → S → Prop} (h : ∀ fin, Q (.d (.bool true)) fin) : m_is_web [.d (webD n ts)] X Q := by
  unfold m_is_web b_is_web
  refine st_sem rfl ?_
  have h1 := g.n0
  have h2 := g.n10
  array_get_dec
  refine is_below_ok fun fin => ?_
  rw [decide_eq_true (show 0 ≤ n ∧ n < 10 + 1 by omega)]
  array_get_dec
  refine are_ties_ok g fun fin => ?_
  array_get_dec
  exact h _
theorem need_web_ok {n : Int} {ts : List (Int × Int)} (g : Good n ts) {X : XF} {Q : R → S → Prop} (h : ∀ fin, Q (.d .none) fin) : m_need_web [.d (webD n ts)] X Q := by
  unfold m_need_web b_need_web
  refine st_sem rfl ?_
  array_get_dec
  refine is_web_ok g fun fin => ?_
  array_get_dec
  exact h _
theorem tied_in_ok {n a b : Int} {ts : List (Int × Int)} {X : XF} {Q : R → S → Prop} (h : ∀ fin, Q (.d (.bool (decide ((min a b, max a b) ∈ ts)))) fin) : m_tied_in [.d (webD n ts), .d (.int a), .d (.int b)] X Q := by
  unfold m_tied_in b_tied_in
  refine st_sem rfl ?_
  array_get_dec
  exact h _
theorem stir_ok {c a : Int} (ha0 : 0 ≤ a) (ha : a ≤ 2 ^ 64) {X : XF} {Q : R → S → Prop} (h : ∀ z fin, Q (.d (.int z)) fin) : m__law_e_stir [.d (.int c), .d (.int a)] X Q := by
  unfold m__law_e_stir b__law_e_stir
  refine st_sem rfl ?_
  array_get_dec
  refine st_ite (fun q => ?_) (fun q => ?_)
  · array_get_dec
    exact h _ _
  · array_get_dec
    refine st_mul_i (okM_of 40 40 (by omega) (by decide)) ?_
    array_get_dec
    refine st_mul_i (okM_of 65 40 (by omega) (by decide)) ?_
    array_get_dec
    refine st_mul_i (okM_of 40 40 (by omega) (by omega)) ?_
    array_get_dec
    refine st_mul_i (okM_of 40 65 (by decide) (by omega)) ?_
    array_get_dec
    refine st_mul_i (okM_of 80 65 (by omega) (by omega)) ?_
    array_get_dec
    refine st_mul_i (okM_of 40 40 (by decide) (by omega)) ?_
    array_get_dec
    refine st_mul_i (okM_of 40 40 (by omega) (by omega)) ?_
    array_get_dec
    refine st_mul_i (okM_of 40 40 (by decide) (by omega)) ?_
    array_get_dec
    refine st_mul_i (okM_of 40 40 (by omega) (by decide)) ?_
    array_get_dec
    exact h _ _
theorem dip_ok {ns : List Int} {F : Nat} {xs : List D} {m : Int} (hc : Cup ns (F + 1) xs) (hm : 0 < m) (hm2 : m.natAbs < 2 ^ 8999) {X : XF} {Q : R → S → Prop} (h : ∀ r xs', Cup ns F xs' → 0 ≤ r → r < m → Q (.d (.int r)) [.l xs', .d (.int m)]) :
    m__law_e_dip [.l xs, .d (.int m)] X Q := by
  obtain ⟨a, v, rfl, h0, h1⟩ := hc
  unfold m__law_e_dip b__law_e_dip
  have ok : okD m := okD_of 8999 hm hm2
  refine st_sem rfl ?_
  refine st_join (fun s => ∃ (a' v' : Int) (x2 x3 : SV), s = [.l [litD ns, .int a', .int v'], .d (.int m), x2, x3, .no] ∧ 0 ≤ a' ∧ a' + (F : Int) ≤ 2 ^ 64) ?_ ?_
  · rintro s ⟨a', v', x2, x3, rfl, h0', h1'⟩
    array_get_dec
    refine st_fdiv_i ok ?_
    array_get_dec
    refine ⟨by decide, by simp, ?_⟩
    array_get_dec
    exact h _ _ ⟨a', v' / m, rfl, h0', h1'⟩ (Int.emod_nonneg _ (by omega)) (Int.emod_lt_of_pos _ hm)
  · intro k hk
    array_get_dec
    refine st_ite (fun q => ?_) (fun q => ?_)
    · have last : ∀ c : Int, fSeq (fSetIx 0 (fC (PyData.int 1)) (fOp opAdd (fVar 2) (fC (PyData.int 1)))) (fSetIx 0 (fC (PyData.int 2)) (fCall m__law_e_stir [false, false] (fCons (fVar 3) (fCons (fVar 2) fNil))))
          ⟨k, fun r s => outR r s fun r' s' => Q r' (s'.take 2), fun _ => False, fun _ => False, fun n s => X n (s.take 2)⟩ [.l [litD ns, .int a, .int v], .d (.int m), .d (.int a), .d (.int c), .no] := by
        intro c
        array_get_dec
        refine ⟨by decide, by simp, ?_⟩
        array_get_dec
        refine stir_ok h0 (by omega) fun z fin => ?_
        array_get_dec
        refine ⟨by decide, by simp, ?_⟩
        array_get_dec
        exact hk _ ⟨a + 1, z, _, _, rfl, by omega, by omega⟩
      array_get_dec
      refine st_mul_i (okM_of 40 65 (by decide) (by omega)) ?_
      array_get_dec
      refine st_ite (fun q2 => ?_) (fun q2 => ?_)
      · array_get_dec
        have q2 := of_decide_eq_true q2
        obtain ⟨z, hz⟩ := at_ok h0 q2
        refine st_ix_lit hz ?_
        array_get_dec
        exact last _
      · array_get_dec
        refine st_ite (fun q3 => ?_) (fun q3 => ?_)
        · have q3 := of_decide_eq_true q3
          array_get_dec
          refine st_mul_i (okM_of 40 65 (by decide) (by omega)) ?_
          array_get_dec
          obtain ⟨z, hz⟩ := at_ok (ns := ns) (i := (5 * a + 2) % (ns.length : Int)) (Int.emod_nonneg _ (by omega)) (Int.emod_lt_of_pos _ q3)
          refine st_ix_lit hz ?_
          array_get_dec
          refine st_mul_i (okM_of 65 40 (by omega) (by decide)) ?_
          array_get_dec
          exact last _
        · array_get_dec
          exact last _
    · array_get_dec
      exact hk _ ⟨a, v, _, _, rfl, h0, by omega⟩
theorem web_of_ok {ns : List Int} {F : Nat} {xs : List D} {n : Int} (hc : Cup ns (F + 101) xs) (h0 : 0 ≤ n) (h10 : n ≤ 10) {X : XF} {Q : R → S → Prop} (h : ∀ ts xs', Cup ns F xs' → Good n ts → Q (.d (webD n ts)) [.l xs', .d (.int n)]) :
    m__law_e_web_of [.l xs, .d (.int n)] X Q := by
  unfold m__law_e_web_of b__law_e_web_of
  refine st_sem rfl ?_
  array_get_dec
  refine dip_ok (F := F + 100) hc (by decide) (by decide) fun often xs1 hc1 ho0 ho1 => ?_
  array_get_dec
  refine ⟨by unfold lim62; omega, ?_⟩
  array_get_dec
  refine loop_range1 (hi := n) (fun i s => ∃ (ts : List (Int × Int)) (xs : List D), s = [.l xs, .d (.int n), .d (.int often), .l (ts.map pairD), .no, .no] ∧ Cup ns (F + 10 * (10 - i).toNat) xs ∧ (∀ p ∈ ts, 0 ≤ p.1 ∧ p.1 < p.2 ∧ p.2 < n ∧ p.1 < i) ∧ ts.Pairwise (fun p q => ltPr p q = true) ∧ (ts.length : Int) ≤ 10 * i) ?_ ?_ ?_
  · rintro s ⟨ts, xs, rfl, hc, hp, hs, hl⟩
    array_get_dec
    exact h ts xs (hc.less (by omega)) ⟨h0, h10, fun p hm => ⟨(hp p hm).1, (hp p hm).2.1, (hp p hm).2.2.1⟩, hs, by omega⟩
  · rintro i s k hi hin ⟨ts, xs, rfl, hc, hp, hs, hl⟩ hk
    array_get_dec
    refine ⟨by unfold lim62; omega, by unfold lim62; omega, ?_⟩
    array_get_dec
    refine loop_range (lo := i + 1) (hi := n) (fun j s => ∃ (ts : List (Int × Int)) (xs : List D), s = [.l xs, .d (.int n), .d (.int often), .l (ts.map pairD), .d (.int i), .no] ∧ Cup ns (F + 10 * (10 - (i + 1)).toNat + (10 - j).toNat) xs ∧ (∀ p ∈ ts, 0 ≤ p.1 ∧ p.1 < p.2 ∧ p.2 < n ∧ (p.1 < i ∨ p.1 = i ∧ p.2 < j)) ∧ ts.Pairwise (fun p q => ltPr p q = true) ∧ (ts.length : Int) ≤ 10 * i + j) ?_ ?_ ?_
    · rintro s ⟨ts, xs, rfl, hc, hp, hs, hl⟩
      refine hk _ ⟨ts, xs, rfl, hc.less (by omega), fun p hm => ?_, hs, by omega⟩
      obtain ⟨p1, p2, p3, p4⟩ := hp p hm
      exact ⟨p1, p2, p3, by omega⟩
    · rintro j s k2 hj hjn ⟨ts, xs, rfl, hc, hp, hs, hl⟩ hk2
      array_get_dec
      refine dip_ok (F := F + 10 * (10 - (i + 1)).toNat + (10 - (j + 1)).toNat) (hc.less (by omega)) (by decide) (by decide) fun r xs' hc' hr0 hr1 => ?_
      array_get_dec
      refine st_ite (fun q => ?_) (fun q => ?_)
      · array_get_dec
        refine st_append (by rw [List.length_map]; show _ < 16777216; omega) ?_
        array_get_dec
        refine hk2 _ ⟨ts ++ [(i, j)], xs', by rw [List.map_append]; rfl, hc', fun p hm => ?_, ?_, by rw [List.length_append]; simp; omega⟩
        · rcases List.mem_append.mp hm with hm | hm
          · obtain ⟨p1, p2, p3, p4⟩ := hp p hm
            exact ⟨p1, p2, p3, by omega⟩
          · obtain rfl : p = (i, j) := by simpa using hm
            exact ⟨by omega, by show i < j; omega, hjn, .inr ⟨rfl, by show j < j + 1; omega⟩⟩
        · refine List.pairwise_append.mpr ⟨hs, by simp, fun p hm q hq => ?_⟩
          obtain rfl : q = (i, j) := by simpa using hq
          obtain ⟨p1, p2, p3, p4⟩ := hp p hm
          unfold ltPr
          simp only [Bool.or_eq_true, decide_eq_true_eq, Bool.and_eq_true, beq_iff_eq]
          omega
      · array_get_dec
        refine hk2 _ ⟨ts, xs', rfl, hc', fun p hm => ?_, hs, by omega⟩
        obtain ⟨p1, p2, p3, p4⟩ := hp p hm
        exact ⟨p1, p2, p3, by omega⟩
    · refine ⟨ts, xs, rfl, hc.less (by omega), fun p hm => ?_, hs, by omega⟩
      obtain ⟨p1, p2, p3, p4⟩ := hp p hm
      exact ⟨p1, p2, p3, .inl p4⟩
  · exact ⟨[], xs1, rfl, hc1.less (by omega), fun p hm => (nomatch hm), .nil, by simp⟩
theorem e_web_ok {ns : List Int} {F : Nat} {xs : List D} {m : Int} (hc : Cup ns (F + 102) xs) (h0 : 0 ≤ m) (h10 : m ≤ 10) {X : XF} {Q : R → S → Prop} (h : ∀ n ts xs', Cup ns F xs' → Good n ts → n ≤ m → Q (.d (webD n ts)) [.l xs', .d (.int m)]) :
    m__law_e_web [.l xs, .d (.int m)] X Q := by
  unfold m__law_e_web b__law_e_web
  refine st_sem rfl ?_
  array_get_dec
  refine dip_ok (F := F + 101) hc (by omega) (by omega) fun r xs2 hc2 hr0 hr1 => ?_
  array_get_dec
  refine web_of_ok (F := F) hc2 hr0 (by omega) fun ts xs3 hc3 g => ?_
  array_get_dec
  exact h r ts xs3 hc3 g (by omega)
theorem all_places_ok {n : Int} {ts : List (Int × Int)} (g : Good n ts) {X : XF} {Q : R → S → Prop} (h : ∀ fin, Q (.d (.tuple ((rangeI n.toNat).map .int))) fin) : m_all_places [.d (webD n ts)] X Q := by
  unfold m_all_places b_all_places
  have h0 := g.n0
  have h1 := g.n10
  refine st_sem rfl ?_
  array_get_dec
  refine ⟨⟨by omega, by omega, by omega, by omega, by omega⟩, ?_⟩
  rw [rangeD_map]
  array_get_dec
  exact h _
theorem cut_to {α : Type} {f : α → D} {ks : List α} {i : Nat} : slD.cutL (ks.map f) none (some (i : Int)) = (ks.take i).map f := by
  unfold slD.cutL
  rw [HT.sIx_none, HT.sIx_nat, List.length_map, Nat.sub_zero, List.drop_zero, ← List.map_take]
  congr 1
  by_cases h : i ≤ ks.length
  · rw [Nat.min_eq_left h]
  · rw [Nat.min_eq_right (by omega), List.take_of_length_le (by omega), List.take_of_length_le (by omega)]
theorem cut_from {α : Type} {f : α → D} {ks : List α} {i : Nat} : slD.cutL (ks.map f) (some (i : Int)) none = (ks.drop i).map f := by
  unfold slD.cutL
  rw [HT.sIx_none, HT.sIx_nat, List.length_map, ← List.map_drop, ← List.map_take]
  congr 1
  by_cases h : i ≤ ks.length
  · rw [Nat.min_eq_left h, List.take_of_length_le (by rw [List.length_drop]; omega)]
  · rw [Nat.min_eq_right (by omega), List.drop_eq_nil_of_le (by omega), List.drop_eq_nil_of_le (by omega), List.take_nil]
theorem enum_map {α : Type} [Inhabited α] {f : α → D} {ks : List α} {i : Nat} (h : i ≤ ks.length) : enumD ((ks.take i).map f) = (List.range i).map fun (j : Nat) => .tuple [.int (j : Int), f (ks.getD j default)] := by
  unfold enumD
  apply List.ext_getElem
  · simp; omega
  · intro n h1 h2
    have h3 : n < i := by simpa using h2
    simp [List.getElem?_eq_getElem (show n < ks.length by omega)]
theorem enum_ints {ks : List Int} {i : Nat} (h : i ≤ ks.length) : enumD ((ks.take i).map PyData.int) = (List.range i).map fun (j : Nat) => .tuple [.int (j : Int), .int (atZ ks (j : Int))] := enum_map h
theorem enum_ints' {ks : List Int} : enumD (ks.map PyData.int) = (List.range ks.length).map fun (j : Nat) => .tuple [.int (j : Int), .int (atZ ks (j : Int))] := by
  have h := enum_ints (ks := ks) (i := ks.length) (Nat.le_refl _)
  rw [List.take_length] at h
  exact h
theorem loop_nat {nx bk ct : S → Prop} {rt : R → S → Prop} {xx : XF} {f1 : FS} {fg : FG} {wp : List Nat} {g : Nat → D} {n : Nat} (I : Nat → S → Prop) (hend : ∀ s, I n s → nx s)
    (hstep : ∀ i s (k : S → Prop), i < n → I i s → (∀ s', I (i + 1) s' → k s') → fg (g i) s fun s1 => f1 ⟨fun s2 => k (wipeS s2 wp), rt, fun s2 => wipeK s2 wp nx, fun s2 => k (wipeS s2 wp), xx⟩ s1) {s : S} (h0 : I 0 s) : fLoop fg wp f1 ⟨nx, rt, bk, ct, xx⟩ ((List.range n).map g) s := by
  have go : ∀ (m i : Nat) (s : S), i + m = n → I i s → fLoop fg wp f1 ⟨nx, rt, bk, ct, xx⟩ ((List.range' i m).map g) s := by
    intro m
    induction m with
    | zero => intro i s e h; exact hend s (by rw [Nat.add_zero] at e; rw [← e]; exact h)
    | succ m ih =>
      intro i s e h
      rw [List.range'_succ, List.map_cons]
      exact hstep i s (fLoop fg wp f1 ⟨nx, rt, bk, ct, xx⟩ ((List.range' (i + 1) m).map g)) (by omega) h fun s' h' => ih (i + 1) s' (by omega) h'
  rw [List.range_eq_range']
  exact go n 0 s (by omega) h0
theorem any_int {ks : List Int} {z : Int} : ((ks.map PyData.int).any fun y => PyData.eqv y (.int z)) = decide (z ∈ ks) := by
  rw [List.any_map]
  apply Bool.eq_iff_iff.mpr
  simp only [List.any_eq_true, Function.comp, decide_eq_true_eq]
  constructor
  · rintro ⟨y, h, e⟩
    have e : decide (y = z) = true := by simpa [PyData.eqv] using e
    rw [← of_decide_eq_true e]; exact h
  · intro h; exact ⟨z, h, by simp [PyData.eqv]⟩
theorem st_in_il {ks : List Int} {z : Int} {k : R → Prop} (h : k (.d (.bool (decide (z ∈ ks))))) : cIn (.int z) (.list (ks.map .int)) k := by
  refine st_in_l shaped_int shaped_intsL ?_
  rw [any_int]; exact h
theorem st_in_it {ks : List Int} {z : Int} {k : R → Prop} (h : k (.d (.bool (decide (z ∈ ks))))) : cIn (.int z) (.tuple (ks.map .int)) k := by
  refine st_in_t shaped_int shaped_intsT ?_
  rw [any_int]; exact h
theorem st_notIn_il {ks : List Int} {z : Int} {k : R → Prop} (h : k (.d (.bool (!decide (z ∈ ks))))) : cNotIn (.int z) (.list (ks.map .int)) k := by
  refine st_notIn_l shaped_int shaped_intsL ?_
  rw [any_int]; exact h
theorem st_notIn_it {ks : List Int} {z : Int} {k : R → Prop} (h : k (.d (.bool (!decide (z ∈ ks))))) : cNotIn (.int z) (.tuple (ks.map .int)) k := by
  refine st_notIn_t shaped_int shaped_intsT ?_
  rw [any_int]; exact h
theorem atZ_in {ks : List Int} {i : Nat} (h : i < ks.length) : atZ ks (i : Int) ∈ ks := by
  simp [atZ, List.getD_eq_getElem?_getD, List.getElem?_eq_getElem h]
local macro_rules
  | `(tactic| sizeOf_list_dec) => `(tactic| first | with_reducible refine st_in_il ?_ | with_reducible refine st_in_it ?_ | with_reducible refine st_notIn_il ?_ | with_reducible refine st_notIn_it ?_ | with_reducible refine st_ne_ll ?_)
noncomputable def dec (P : Prop) : Bool := @decide P (Classical.propDecidable P)
theorem dec_t {P : Prop} (h : P) : dec P = true := by unfold dec; simp [h]
theorem dec_f {P : Prop} (h : ¬ P) : dec P = false := by unfold dec; simp [h]
def Up (ps : List (Int × Int)) : Prop := ps.Pairwise (fun p q => ltPr p q = true)
theorem ltPr_iff {p q : Int × Int} : ltPr p q = true ↔ p.1 < q.1 ∨ p.1 = q.1 ∧ p.2 < q.2 := by
  unfold ltPr
  simp only [Bool.or_eq_true, decide_eq_true_eq, Bool.and_eq_true, beq_iff_eq]
theorem Up.nodup {ps : List (Int × Int)} (h : Up ps) : ps.Nodup := h.imp fun {a b} h e => by
  subst e
  have := ltPr_iff.mp h
  omega
theorem up_eq : ∀ {ps qs : List (Int × Int)}, Up ps → Up qs → (∀ p, p ∈ ps ↔ p ∈ qs) → ps = qs
  | [], [], _, _, _ => rfl
  | [], q :: qs, _, _, h => nomatch (h q).mpr List.mem_cons_self
  | p :: ps, [], _, _, h => nomatch (h p).mp List.mem_cons_self
  | p :: ps, q :: qs, h1, h2, h => by
    obtain ⟨a1, a2⟩ := List.pairwise_cons.mp h1
    obtain ⟨b1, b2⟩ := List.pairwise_cons.mp h2
    have e : p = q := by
      rcases List.mem_cons.mp ((h p).mp List.mem_cons_self) with e | hp
      · exact e
      · rcases List.mem_cons.mp ((h q).mpr List.mem_cons_self) with e | hq
        · exact e.symm
        · have c1 := ltPr_iff.mp (b1 p hp)
          have c2 := ltPr_iff.mp (a1 q hq)
          omega
    subst e
    rw [up_eq a2 b2 fun r => ?_]
    constructor
    · intro hr
      rcases List.mem_cons.mp ((h r).mp (List.mem_cons_of_mem _ hr)) with e | hr2
      · subst e
        have := ltPr_iff.mp (a1 r hr); omega
      · exact hr2
    · intro hr
      rcases List.mem_cons.mp ((h r).mpr (List.mem_cons_of_mem _ hr)) with e | hr2
      · subst e
        have := ltPr_iff.mp (b1 r hr); omega
      · exact hr2
/-- the rows gone through up to (i, j): just the pairs for which f says yes -/
structure Upto (n : Int) (f : Int → Int → Prop) (i j : Int) (ts : List (Int × Int)) : Prop where
  up : Up ts
  mem : ∀ p, p ∈ ts ↔ 0 ≤ p.1 ∧ p.1 < p.2 ∧ p.2 < n ∧ f p.1 p.2 ∧ (p.1 < i ∨ p.1 = i ∧ p.2 < j)
  few : (ts.length : Int) ≤ 10 * i + j
theorem Upto.start {n : Int} {f : Int → Int → Prop} : Upto n f 0 0 [] := ⟨.nil, fun p => ⟨fun h => (nomatch h), fun ⟨h1, h2, h3, h4, h5⟩ => by omega⟩, by simp⟩
theorem Upto.row {n i : Int} {f : Int → Int → Prop} {ts : List (Int × Int)} (hi : 0 ≤ i) (h : Upto n f i 0 ts) : Upto n f i (i + 1) ts := ⟨h.up, fun p => by
  rw [h.mem]
  constructor
  · rintro ⟨h1, h2, h3, h4, h5⟩; exact ⟨h1, h2, h3, h4, by omega⟩
  · rintro ⟨h1, h2, h3, h4, h5⟩; exact ⟨h1, h2, h3, h4, by omega⟩, by have := h.few; omega⟩
theorem Upto.no {n i j : Int} {f : Int → Int → Prop} {ts : List (Int × Int)} (h : Upto n f i j ts) (hf : ¬ f i j) : Upto n f i (j + 1) ts := ⟨h.up, fun p => by
  rw [h.mem]
  constructor
  · rintro ⟨h1, h2, h3, h4, h5⟩; exact ⟨h1, h2, h3, h4, by omega⟩
  · rintro ⟨h1, h2, h3, h4, h5⟩
    refine ⟨h1, h2, h3, h4, ?_⟩
    by_cases e : p.1 = i ∧ p.2 = j
    · rw [e.1, e.2] at h4; exact (hf h4).elim
    · omega, by have := h.few; omega⟩
theorem Upto.next {n i j : Int} {f : Int → Int → Prop} {ts : List (Int × Int)} (h : Upto n f i j ts) (hj : n ≤ j) (hj2 : j ≤ 10) : Upto n f (i + 1) 0 ts := ⟨h.up, fun p => by
  rw [h.mem]
  constructor
  · rintro ⟨h1, h2, h3, h4, h5⟩; exact ⟨h1, h2, h3, h4, by omega⟩
  · rintro ⟨h1, h2, h3, h4, h5⟩; exact ⟨h1, h2, h3, h4, by omega⟩, by have := h.few; omega⟩
/-- all the rows -/
structure Whole (n : Int) (f : Int → Int → Prop) (ts : List (Int × Int)) : Prop where
  up : Up ts
  mem : ∀ p, p ∈ ts ↔ 0 ≤ p.1 ∧ p.1 < p.2 ∧ p.2 < n ∧ f p.1 p.2
  few : ts.length ≤ 1000
theorem Whole.good {n : Int} {f : Int → Int → Prop} {ts : List (Int × Int)} (h : Whole n f ts) (h0 : 0 ≤ n) (h10 : n ≤ 10) : Good n ts := ⟨h0, h10, fun p hp => by have := (h.mem p).mp hp; exact ⟨this.1, this.2.1, this.2.2.1⟩, h.up, h.few⟩
/-- rising pairs below ten are few -/
theorem up_few {ps : List (Int × Int)} (h : Up ps) (hb : ∀ p ∈ ps, 0 ≤ p.1 ∧ p.1 < 10 ∧ 0 ≤ p.2 ∧ p.2 < 10) : ps.length ≤ 100 := by
  have go : ∀ (l : List Nat), l.Pairwise (· < ·) → (∀ x ∈ l, x < 100) → ∀ m, (∀ x ∈ l, m ≤ x) → m ≤ 100 → l.length + m ≤ 100 := by
    intro l
    induction l with
    | nil => intro _ _ m _ h; simpa using h
    | cons a l ih =>
      intro hp hx m hm _
      obtain ⟨h1, h2⟩ := List.pairwise_cons.mp hp
      have := ih h2 (fun x hx' => hx x (List.mem_cons_of_mem _ hx')) (a + 1) (fun x hx' => h1 x hx') (by have := hx a List.mem_cons_self; omega)
      have := hm a List.mem_cons_self
      rw [List.length_cons]
      omega
  have h2 : (ps.map fun p => (p.1 * 10 + p.2).toNat).Pairwise (· < ·) := by
    refine List.pairwise_map.mpr (List.Pairwise.imp_of_mem ?_ h)
    intro a b ha hb' hab
    have h1 := hb a ha
    have h2 := hb b hb'
    have h3 := ltPr_iff.mp hab
    omega
  have := go _ h2 (fun x hx => by
    obtain ⟨p, hp, rfl⟩ := List.mem_map.mp hx
    have := hb p hp
    omega) 0 (fun _ _ => Nat.zero_le _) (by decide)
  simpa using this
theorem good_few {n : Int} {ts : List (Int × Int)} (g : Good n ts) : ts.length ≤ 100 := up_few g.up fun p hp => by have := g.ties p hp; have := g.n10; omega
theorem rangeI_up {n : Nat} : (rangeI n).Pairwise (· < ·) := List.pairwise_map.mpr ((List.pairwise_lt_range (n := n)).imp fun {a b} h => by omega)
theorem st_notIn_pt {ts : List (Int × Int)} {a b : Int} {k : R → Prop} (h : k (.d (.bool (!decide ((a, b) ∈ ts))))) : cNotIn (.tuple [.int a, .int b]) (.tuple (ts.map pairD)) k := by
  refine st_notIn_t (shaped_pairD (p := (a, b))) shaped_pairs ?_
  rw [show (PyData.tuple [.int a, .int b]) = pairD (a, b) from rfl, any_pair]
  exact h
local macro_rules
  | `(tactic| sizeOf_list_dec) => `(tactic| with_reducible refine st_notIn_pt ?_)
/-- a set of places -/
structure Set' (n : Int) (ks : List Int) : Prop where
  up : ks.Pairwise (· < ·)
  lt : ∀ z ∈ ks, 0 ≤ z ∧ z < n
theorem Set'.few {n : Int} {ks : List Int} (h : Set' n ks) (h10 : n ≤ 10) : ks.length ≤ 10 := by
  have go : ∀ (l : List Int), l.Pairwise (· < ·) → (∀ x ∈ l, x < 10) → ∀ m : Int, 0 ≤ m → (∀ x ∈ l, m ≤ x) → m ≤ 10 → (l.length : Int) + m ≤ 10 := by
    intro l
    induction l with
    | nil => intro _ _ m _ _ h; simpa using h
    | cons a l ih =>
      intro hp hx m h0 hm _
      obtain ⟨h1, h2⟩ := List.pairwise_cons.mp hp
      have ha := hx a List.mem_cons_self
      have hma := hm a List.mem_cons_self
      have := ih h2 (fun x hx' => hx x (List.mem_cons_of_mem _ hx')) (a + 1) (by omega) (fun x hx' => by have := h1 x hx'; omega) (by omega)
      rw [List.length_cons]
      omega
  have := go ks h.up (fun x hx => by have := h.lt x hx; omega) 0 (by omega) (fun x hx => (h.lt x hx).1) (by omega)
  omega
theorem set_range {n : Int} : Set' n (rangeI n.toNat) := ⟨rangeI_up, fun z hz => by have := rangeI_mem.mp hz; omega⟩
theorem Set'.sub {n : Int} {ks ls : List Int} (h : Set' n ks) (s : ls.Sublist ks) : Set' n ls := ⟨h.up.sublist s, fun z hz => h.lt z (s.subset hz)⟩
theorem Set'.at_lt {n : Int} {ks : List Int} (h : Set' n ks) {i j : Int} (h0 : 0 ≤ i) (hij : i < j) (hj : j < ks.length) : atZ ks i < atZ ks j := by
  obtain ⟨a, rfl⟩ := Int.eq_ofNat_of_zero_le h0
  obtain ⟨b, rfl⟩ := Int.eq_ofNat_of_zero_le (show 0 ≤ j by omega)
  have h1 : a < ks.length := by omega
  have h2 : b < ks.length := by omega
  have lt := List.pairwise_iff_getElem.mp h.up a b h1 h2 (by omega)
  simpa [atZ, List.getD_eq_getElem?_getD, List.getElem?_eq_getElem h1, List.getElem?_eq_getElem h2] using lt
theorem sort_one : ∀ {as bs : List (List Int)}, as.Perm bs → as.Pairwise (fun a b => lexL b a = false) → bs.Pairwise (fun a b => lexL b a = false) → as = bs
  | [], bs, h, _, _ => h.symm.eq_nil.symm
  | a :: as, [], h, _, _ => by cases h.eq_nil
  | a :: as, b :: bs, h, h1, h2 => by
    obtain ⟨p1, p2⟩ := List.pairwise_cons.mp h1
    obtain ⟨q1, q2⟩ := List.pairwise_cons.mp h2
    have e : a = b := by
      rcases List.mem_cons.mp (h.mem_iff.mp List.mem_cons_self) with e | ha
      · exact e
      · rcases List.mem_cons.mp (h.mem_iff.mpr List.mem_cons_self) with e | hb
        · exact e.symm
        · exact lexL_eq (q1 a ha) (p1 b hb)
    subst e
    rw [sort_one h.cons_inv p2 q2]
theorem tupsOf_map : ∀ nss : List (List Int), tupsOf (nss.map tupI) = some nss
  | [] => rfl
  | ns :: nss => by
    show (match tupOf (tupI ns), tupsOf (nss.map tupI) with | some n, some ns => some (n :: ns) | _, _ => none) = _
    rw [tupsOf_map nss, show tupOf (tupI ns) = some ns from intsOf_map' ns]
theorem st_sort_t {nss : List (List Int)} {k : R → Prop} (hne : 2 ≤ nss.length → ∀ ns ∈ nss, ns ≠ []) (h : ∀ mss : List (List Int), mss.Perm nss → mss.Pairwise (fun a b => lexL b a = false) → k (.own (.l (mss.map tupI)))) : bSorted [.list (nss.map tupI)] k := by
  cases nss with
  | nil => exact fun ms hp hs => by rw [hp.eq_nil]; exact h [] (List.Perm.refl _) .nil
  | cons ns nss =>
    show (match pairsOf ((ns :: nss).map tupI) with | some _ => bSortP [.list ((ns :: nss).map tupI)] k | none => bSortT [.list ((ns :: nss).map tupI)] k)
    generalize e0 : (ns :: nss) = all at hne h ⊢
    clear e0
    cases e : pairsOf (all.map tupI) with
    | none =>
      show (match tupsOf (all.map tupI) with
        | some nss => (2 ≤ nss.length → ∀ ns ∈ nss, ns ≠ []) ∧ ∀ mss : List (List Int), mss.Perm nss → mss.Pairwise (fun a b => lexL b a = false) → k (.own (.l (mss.map tupI)))
        | none => False)
      rw [tupsOf_map]
      exact ⟨hne, h⟩
    | some ps =>
      show (match pairsOf (all.map tupI) with | some ps => ∀ qs : List (Int × Int), qs.Perm ps → qs.Pairwise (fun p q => ltPr q p = false) → k (.own (.l (qs.map pairD))) | none => False)
      rw [e]
      intro qs hp hs
      have e1 := pairsOf_eq e
      have inj : ∀ {as bs : List (List Int)}, as.map tupI = bs.map tupI → as = bs := fun {as bs} h => by
        have := congrArg tupsOf h
        rw [tupsOf_map, tupsOf_map] at this
        exact Option.some.inj this
      have e2 : all = ps.map fun p => [p.1, p.2] := inj (by
        rw [e1, List.map_map]
        rfl)
      have e3 : qs.map pairD = (qs.map fun p => [p.1, p.2]).map tupI := by rw [List.map_map]; rfl
      rw [e3]
      refine h _ (by rw [e2]; exact hp.map _) ?_
      rw [List.pairwise_map]
      refine hs.imp fun {p q} hpq => ?_
      have : ¬ (q.1 < p.1 ∨ q.1 = p.1 ∧ q.2 < p.2) := fun hc => by
        unfold ltPr at hpq
        simp only [Bool.or_eq_false_iff, Bool.and_eq_false_iff, decide_eq_false_iff_not, beq_eq_false_iff_ne, ne_eq] at hpq
        omega
      rw [lexL_cons, lexL_cons]
      by_cases a : q.1 = p.1
      · rw [if_pos a]
        by_cases b : q.2 = p.2
        · rw [if_pos b]; rfl
        · rw [if_neg b]
          exact decide_eq_false (by omega)
      · rw [if_neg a]
        exact decide_eq_false (by omega)
theorem st_eq_ll {ns ms : List Int} {k : R → Prop} (h : k (.d (.bool (decide (ns = ms))))) : cEq (.list (ns.map .int)) (.list (ms.map .int)) k := by
  refine st_eq (x := .list (ns.map .int)) (y := .list (ms.map .int)) shaped_intsL shaped_intsL ?_
  show k (.d (.bool (PyData.eqvAll (ns.map .int) (ms.map .int))))
  rw [eqv_ints]
  exact h
theorem st_lcK {it : FI} {fg : FG} {wp : List Nat} {t : FT} {e : FE} {X : XF} {s : S} {Q : R → S → Prop} (h : it X s fun xs s1 => xs.length ≤ sizeLine ∧ wipeK s1 wp fun s2 => fCompL (fun _ _ => False) fg wp t e Q xs [] s2) : fLcL it fg wp t e X s Q := h
local macro_rules
  | `(tactic| sizeOf_list_dec) => `(tactic| first | with_reducible refine st_lcK ?_ | with_reducible refine st_rowOf ?_)
def mat (n : Nat) (f : Int → Int → Bool) : List (List D) := (rangeI n).map fun i => (rangeI n).map fun j => PyData.bool (f i j)
def Tb (ts : List (Int × Int)) (a b : Int) : Bool := decide ((min a b, max a b) ∈ ts)
theorem Tb_symm {ts : List (Int × Int)} {a b : Int} : Tb ts a b = Tb ts b a := by
  unfold Tb
  rw [Int.min_comm, Int.max_comm]
theorem rangeI_get {n k : Nat} (h : k < n) : (rangeI n)[k]? = some (k : Int) := by
  unfold rangeI
  simp [h]
theorem rangeI_at {n k : Nat} (h : k < (rangeI n).length) : (rangeI n)[k] = (k : Int) := (List.getElem?_eq_some_iff.mp (rangeI_get (by rw [rangeI_len] at h; exact h))).2
theorem mat_len {n : Nat} {f : Int → Int → Bool} : (mat n f).length = n := by unfold mat; rw [List.length_map, rangeI_len]
theorem mat_at {n k : Nat} {f : Int → Int → Bool} (h : k < (mat n f).length) : (mat n f)[k] = (rangeI n).map fun j => PyData.bool (f k j) := by
  have hk : k < n := by rw [mat_len] at h; exact h
  have e : (mat n f)[k]? = some ((rangeI n).map fun j => PyData.bool (f k j)) := by
    unfold mat
    rw [List.getElem?_map, rangeI_get hk]
    rfl
  exact (List.getElem?_eq_some_iff.mp e).2
theorem mat_getD {n k : Nat} {f : Int → Int → Bool} (h : k < n) : (mat n f).getD k [] = (rangeI n).map fun j => PyData.bool (f k j) := by
  have h2 : k < (mat n f).length := by rw [mat_len]; exact h
  rw [List.getD_eq_getElem?_getD, List.getElem?_eq_getElem h2, Option.getD_some, mat_at]
theorem mat_set {n i j : Nat} {f : Int → Int → Bool} (hi : i < n) (hj : j < n) : (mat n f).set i (((mat n f).getD i []).set j (.bool true)) = mat n (fun a b => f a b || (decide (a = i) && decide (b = j))) := by
  rw [mat_getD hi]
  apply List.ext_getElem
  · rw [List.length_set, mat_len, mat_len]
  · intro a h1 h2
    have ha : a < n := by rw [mat_len] at h2; exact h2
    rw [List.getElem_set, mat_at, mat_at]
    by_cases e : i = a
    · subst e
      rw [if_pos rfl]
      apply List.ext_getElem
      · rw [List.length_set, List.length_map, List.length_map]
      · intro b h3 h4
        rw [List.getElem_set, List.getElem_map, List.getElem_map, rangeI_at]
        by_cases e2 : j = b
        · subst e2
          rw [if_pos rfl]
          simp
        · rw [if_neg e2]
          have : ¬ ((b : Int) = j) := by omega
          simp [this]
    · rw [if_neg e]
      refine List.map_congr_left fun b hb => ?_
      have : ¬ ((a : Int) = i) := by omega
      simp [this]
theorem Tb_snoc {done : List (Int × Int)} {i j : Int} (h : i < j) : Tb (done ++ [(i, j)]) = fun a b => (Tb done a b || (decide (a = i) && decide (b = j))) || (decide (a = j) && decide (b = i)) := by
  funext a b
  unfold Tb
  rw [Bool.eq_iff_iff]
  simp only [List.mem_append, List.mem_singleton, Prod.mk.injEq, decide_eq_true_eq, Bool.or_eq_true, Bool.and_eq_true]
  constructor
  · rintro (h1 | h1)
    · exact .inl (.inl h1)
    · by_cases hab : a ≤ b
      · exact .inl (.inr (by omega))
      · exact .inr (by omega)
  · rintro ((h1 | h1) | h1)
    · exact .inl h1
    · exact .inr (by omega)
    · exact .inr (by omega)
theorem rows_of_ok {n : Int} {ts : List (Int × Int)} (g : Good n ts) {X : XF} {Q : R → S → Prop} (h : ∀ fin, Q (.own (.ll (mat n.toNat (Tb ts)))) fin) : m_rows_of [.d (webD n ts)] X Q := by
  unfold m_rows_of b_rows_of
  have n0 := g.n0
  have n10 := g.n10
  refine st_sem rfl ?_
  array_get_dec
  refine all_places_ok g fun fin => ?_
  array_get_dec
  refine ⟨by rw [List.length_map, rangeI_len]; show _ ≤ 16777216; omega, ?_⟩
  array_get_dec
  refine compL_list PyData.int (fun i => (rangeI n.toNat).map fun j => PyData.bool (Tb [] i j)) _ (fun i hi kT hkT => ?_) ?_
  · array_get_dec
    refine st_mul_l (xs := [PyData.bool false]) (n := n) (by omega) (by omega) (by show 1 * n.toNat ≤ 16777216; omega) ?_
    array_get_dec
    have e : (List.replicate n.toNat [PyData.bool false]).flatten = (rangeI n.toNat).map fun j => PyData.bool (Tb [] i j) := by
      generalize n.toNat = m
      induction m with
      | zero => rfl
      | succ m ih =>
        have e2 : rangeI (m + 1) = rangeI m ++ [(m : Int)] := by
          unfold rangeI
          rw [List.range_succ, List.map_append]
          rfl
        rw [List.replicate_succ', List.flatten_append, ih, e2, List.map_append]
        rfl
    rw [e]
    exact hkT
  · array_get_dec
    refine loop_list pairD (fun l s => ∃ done, s = [.d (webD n ts), .ll (mat n.toNat (Tb done)), .no, .no, .no] ∧ ts = done ++ l) ?_ ?_ _ _ ⟨[], rfl, rfl⟩
    · rintro s ⟨done, rfl, e⟩
      rw [List.append_nil] at e
      subst e
      array_get_dec
      exact h _
    · rintro p l s k ⟨done, rfl, e⟩ hk
      have hp := g.ties p (by rw [e]; simp)
      obtain ⟨i, j⟩ := p
      obtain ⟨h0, h1, h2⟩ := hp
      simp only at h0 h1 h2
      obtain ⟨a, rfl⟩ := Int.eq_ofNat_of_zero_le h0
      obtain ⟨b, rfl⟩ := Int.eq_ofNat_of_zero_le (show 0 ≤ j by omega)
      array_get_dec
      refine st_setLL ?_
      array_get_dec
      refine ⟨_, _, _, rfl, rfl, rfl, by omega, by rw [mat_len, Int.toNat_natCast]; omega, by omega, by rw [Int.toNat_natCast, mat_getD (by omega), List.length_map, rangeI_len]; omega, ?_⟩
      rw [Int.toNat_natCast, Int.toNat_natCast, mat_set (by omega) (by omega)]
      dsimp only [List.set]
      refine st_setLL ?_
      array_get_dec
      refine ⟨_, _, _, rfl, rfl, rfl, by omega, by rw [mat_len, Int.toNat_natCast]; omega, by omega, by rw [Int.toNat_natCast, mat_getD (by omega), List.length_map, rangeI_len]; omega, ?_⟩
      rw [Int.toNat_natCast, Int.toNat_natCast, mat_set (by omega) (by omega)]
      dsimp only [List.set]
      refine hk _ ⟨done ++ [((a : Int), (b : Int))], ?_, by rw [e]; simp⟩
      rw [Tb_snoc h1]
      rfl
theorem row_at {n : Nat} {f : Int → Int → Bool} {p : Int} (h0 : 0 ≤ p) (h1 : p < n) : L2.atI ((mat n f).map PyData.list) p = some (.list ((rangeI n).map fun j => PyData.bool (f p j))) := by
  obtain ⟨a, rfl⟩ := Int.eq_ofNat_of_zero_le h0
  have h2 : a < (mat n f).length := by rw [mat_len]; omega
  exact L2.atI_nat (by rw [List.getElem?_map, List.getElem?_eq_getElem h2, mat_at]; rfl)
theorem cell_at {n : Nat} {f : Int → Bool} {p : Int} (h0 : 0 ≤ p) (h1 : p < n) : L2.atI ((rangeI n).map fun j => PyData.bool (f j)) p = some (.bool (f p)) := by
  obtain ⟨a, rfl⟩ := Int.eq_ofNat_of_zero_le h0
  have h2 : a < (rangeI n).length := by rw [rangeI_len]; omega
  exact L2.atI_nat (by rw [List.getElem?_map, List.getElem?_eq_getElem h2, rangeI_at]; rfl)
def ff (g : Int → Int → Bool) : Nat → List Int → List Int → List Int → List (List Int)
  | 0, _, _, _ => []
  | n + 1, ch, lf, sh => if lf = [] ∧ sh = [] then [ch] else (List.range lf.length).flatMap fun (i : Nat) => ff g n (ch ++ [atZ lf i]) ((lf.drop (i + 1)).filter (g (atZ lf i))) ((sh ++ lf.take i).filter (g (atZ lf i)))
theorem sum_le {α : Type} {f g : α → Nat} : ∀ {l : List α}, (∀ a ∈ l, f a ≤ g a) → (l.map f).sum ≤ (l.map g).sum
  | [], _ => Nat.le_refl _
  | a :: l, h => by
    rw [List.map_cons, List.map_cons, List.sum_cons, List.sum_cons]
    have := h a List.mem_cons_self
    have := sum_le (l := l) fun b hb => h b (List.mem_cons_of_mem _ hb)
    omega
theorem sum_pow : ∀ L : Nat, ((List.range L).map fun i => 2 ^ (L - 1 - i)).sum + 1 ≤ 2 ^ L
  | 0 => by decide
  | L + 1 => by
    have ih := sum_pow L
    rw [List.range_succ_eq_map, List.map_cons, List.map_map, List.sum_cons]
    have e : ((List.range L).map ((fun i => 2 ^ (L + 1 - 1 - i)) ∘ Nat.succ)) = (List.range L).map fun i => 2 ^ (L - 1 - i) := by
      refine List.map_congr_left fun i hi => ?_
      have := List.mem_range.mp hi
      show 2 ^ (L + 1 - 1 - (i + 1)) = 2 ^ (L - 1 - i)
      rw [show L + 1 - 1 - (i + 1) = L - 1 - i by omega]
    rw [e, show L + 1 - 1 - 0 = L by omega, Nat.pow_succ]
    omega
theorem ff_len {g : Int → Int → Bool} : ∀ (n : Nat) (ch lf sh : List Int), (ff g n ch lf sh).length ≤ 2 ^ lf.length
  | 0, _, _, _ => Nat.zero_le _
  | n + 1, ch, lf, sh => by
    unfold ff
    split
    · exact Nat.one_le_two_pow
    · rw [List.length_flatMap]
      refine Nat.le_trans (sum_le (g := fun i => 2 ^ (lf.length - 1 - i)) fun i hi => ?_) (Nat.le_trans (Nat.le_succ _) (sum_pow lf.length))
      refine Nat.le_trans (ff_len n _ _ _) (Nat.pow_le_pow_right (by decide) ?_)
      have := List.length_filter_le (g (atZ lf i)) (lf.drop (i + 1))
      rw [List.length_drop] at this
      omega
theorem full_from_ok {n : Nat} {f : Int → Int → Bool} {w : Bool} : ∀ (N : Nat) (ch lf sh : List Int), lf.length < N → lf.length + sh.length ≤ 10 → ch.length + lf.length ≤ 10 → (∀ z ∈ lf ++ sh, 0 ≤ z ∧ z < n) → ∀ (X : XF) (Q : R → S → Prop),
    (∀ fin, Q (.own (.l ((ff (fun a b => f a b == w) N ch lf sh).map tupI))) fin) → m_full_from N [.d (.list ((mat n f).map .list)), .d (.bool w), .d (.tuple (ch.map .int)), .d (.list (lf.map .int)), .d (.list (sh.map .int))] X Q
  | 0, _, _, _, h, _, _, _ => by omega
  | N + 1, ch, lf, sh, hN, h10, hc, hz => fun X Q h => by
    show semOf 5 11 (b_full_from (m_full_from N)) _ X Q
    unfold b_full_from
    refine st_sem rfl ?_
    array_get_dec
    refine st_eq_ll (ms := []) ?_
    array_get_dec
    have rest : ¬ (lf = [] ∧ sh = []) → fSeq (fAsg 5 (fLst fNil)) (fSeq (fFor (iEnumL (fCons (fVar 3) fNil)) (gTp [gNm 6, gNm 7]) [6, 7, 8, 9, 10] (fSeq (fAsg 8 (fLc (iSeq (fSl slD (fVar 3) (fPart (fOp opAdd (fVar 6) (fC (.int 1)))) (fNoPart))) (gNm 9) [9] (fB (fOp cEq (fOp ixD (fOp ixD (fVar 0) (fVar 7)) (fVar 9)) (fVar 1))) (fVar 9)))
        (fSeq (fAsg 10 (fLc (iSeq (fOp opAdd (fVar 4) (fSl slD (fVar 3) (fNoPart) (fPart (fVar 6))))) (gNm 9) [9] (fB (fOp cEq (fOp ixD (fOp ixD (fVar 0) (fVar 7)) (fVar 9)) (fVar 1))) (fVar 9)))
        (fDrop (fLm 5 mExtend (fCons (fCall (m_full_from N) [false, false, false, false, false] (fCons (fVar 0) (fCons (fVar 1) (fCons (fOp opAdd (fVar 2) (fTup (fCons (fVar 7) (fNil)))) (fCons (fVar 8) (fCons (fVar 10) (fNil))))))) (fNil)))))))
        (fRet (fVar 5))) ⟨fun s => Q (.d .none) (s.take 5), fun r s => outR r s fun r' s' => Q r' (s'.take 5), fun _ => False, fun _ => False, fun n s => X n (s.take 5)⟩ [.d (.list ((mat n f).map .list)), .d (.bool w), .d (.tuple (ch.map .int)), .d (.list (lf.map .int)), .d (.list (sh.map .int)), .no, .no, .no, .no, .no, .no] := by
      intro hne
      array_get_dec
      rw [enum_ints']
      refine loop_nat (fun i s => s = [.d (.list ((mat n f).map .list)), .d (.bool w), .d (.tuple (ch.map .int)), .d (.list (lf.map .int)), .d (.list (sh.map .int)), .l (((List.range i).flatMap fun (i : Nat) => ff (fun a b => f a b == w) N (ch ++ [atZ lf i]) ((lf.drop (i + 1)).filter fun b => f (atZ lf i) b == w) ((sh ++ lf.take i).filter fun b => f (atZ lf i) b == w)).map tupI), .no, .no, .no, .no, .no] ∧ ((List.range i).flatMap fun (i : Nat) => ff (fun a b => f a b == w) N (ch ++ [atZ lf i]) ((lf.drop (i + 1)).filter fun b => f (atZ lf i) b == w) ((sh ++ lf.take i).filter fun b => f (atZ lf i) b == w)).length ≤ 1024 * i) ?_ ?_ ⟨rfl, Nat.le_refl _⟩
      · rintro s ⟨rfl, -⟩
        array_get_dec
        have e : ff (fun a b => f a b == w) (N + 1) ch lf sh = (List.range lf.length).flatMap fun (i : Nat) => ff (fun a b => f a b == w) N (ch ++ [atZ lf i]) ((lf.drop (i + 1)).filter fun b => f (atZ lf i) b == w) ((sh ++ lf.take i).filter fun b => f (atZ lf i) b == w) := by
          show (if lf = [] ∧ sh = [] then _ else _) = _
          rw [if_neg hne]
        rw [← e]
        exact h _
      · rintro i s k hi ⟨rfl, hl⟩ hk
        have hp := hz (atZ lf i) (List.mem_append_left _ (atZ_in hi))
        have lt1 : (lf.take i).length ≤ 10 := by rw [List.length_take]; omega
        have ld : (lf.drop (i + 1)).length = lf.length - (i + 1) := List.length_drop
        have lt2 : (lf.take i).length = i := by rw [List.length_take]; omega
        have f1 := List.length_filter_le (fun b => f (atZ lf i) b == w) (lf.drop (i + 1))
        have f2 := List.length_filter_le (fun b => f (atZ lf i) b == w) (sh ++ lf.take i)
        rw [List.length_append, lt2] at f2
        array_get_dec
        rw [show (i : Int) + 1 = ((i + 1 : Nat) : Int) by omega, cut_from]
        refine ⟨by rw [List.length_map]; show _ ≤ 16777216; omega, ?_⟩
        array_get_dec
        refine comp_filter PyData.int PyData.int (fun b => f (atZ lf i) b == w) _ (fun z hz2 kT kF hT hF => ?_) ?_
        · have hzz := hz z (List.mem_append_left _ ((List.drop_sublist _ _).subset hz2))
          array_get_dec
          refine st_ix_l (row_at hp.1 hp.2) ?_
          array_get_dec
          refine st_ix_l (cell_at hzz.1 hzz.2) ?_
          array_get_dec
          refine st_ite (fun q => ?_) (fun q => ?_)
          · array_get_dec
            exact hT q
          · exact hF q
        · array_get_dec
          rw [cut_to]
          refine st_add_l (by rw [List.length_map, List.length_map]; show _ ≤ 16777216; omega) ?_
          rw [← List.map_append]
          array_get_dec
          refine ⟨by rw [List.length_map, List.length_append]; show _ ≤ 16777216; omega, ?_⟩
          array_get_dec
          refine comp_filter PyData.int PyData.int (fun b => f (atZ lf i) b == w) _ (fun z hz2 kT kF hT hF => ?_) ?_
          · have hzz : 0 ≤ z ∧ z < n := by
              rcases List.mem_append.mp hz2 with hz2 | hz2
              · exact hz z (List.mem_append_right _ hz2)
              · exact hz z (List.mem_append_left _ ((List.take_sublist _ _).subset hz2))
            array_get_dec
            refine st_ix_l (row_at hp.1 hp.2) ?_
            array_get_dec
            refine st_ix_l (cell_at hzz.1 hzz.2) ?_
            array_get_dec
            refine st_ite (fun q => ?_) (fun q => ?_)
            · array_get_dec
              exact hT q
            · exact hF q
          · array_get_dec
            refine st_add_t (by rw [List.length_map]; show _ + 1 ≤ 16777216; omega) ?_
            rw [show ch.map PyData.int ++ [PyData.int (atZ lf i)] = (ch ++ [atZ lf i]).map PyData.int by simp]
            array_get_dec
            refine full_from_ok N _ _ _ (by omega) (by omega) (by rw [List.length_append, List.length_singleton]; omega) (fun z hz2 => ?_) _ _ fun fin => ?_
            · rcases List.mem_append.mp hz2 with hz2 | hz2
              · exact hz z (List.mem_append_left _ ((List.drop_sublist _ _).subset (List.mem_filter.mp hz2).1))
              · rcases List.mem_append.mp (List.mem_filter.mp hz2).1 with hz2 | hz2
                · exact hz z (List.mem_append_right _ hz2)
                · exact hz z (List.mem_append_left _ ((List.take_sublist _ _).subset hz2))
            · have bl := ff_len (g := fun a b => f a b == w) N (ch ++ [atZ lf i]) ((lf.drop (i + 1)).filter fun b => f (atZ lf i) b == w) ((sh ++ lf.take i).filter fun b => f (atZ lf i) b == w)
              have bl2 : 2 ^ ((lf.drop (i + 1)).filter fun b => f (atZ lf i) b == w).length ≤ 2 ^ 10 := Nat.pow_le_pow_right (by decide) (by omega)
              array_get_dec
              refine st_extend (by rw [List.length_map, List.length_map]; show _ ≤ 16777216; omega) ?_
              array_get_dec
              refine hk _ ⟨?_, ?_⟩
              · rw [List.range_succ, List.flatMap_append, List.map_append, List.flatMap_cons, List.flatMap_nil, List.append_nil]
                rfl
              · rw [List.range_succ, List.flatMap_append, List.length_append, List.flatMap_cons, List.flatMap_nil, List.append_nil]
                omega
    refine st_ite (fun q => ?_) (fun q => ?_)
    · have q := of_decide_eq_true q
      array_get_dec
      refine st_eq_ll (ms := []) ?_
      array_get_dec
      refine st_ite (fun q2 => ?_) (fun q2 => ?_)
      · have q2 := of_decide_eq_true q2
        array_get_dec
        have e : ff (fun a b => f a b == w) (N + 1) ch lf sh = [ch] := by
          show (if lf = [] ∧ sh = [] then _ else _) = _
          rw [if_pos ⟨q, q2⟩]
        rw [e] at h
        exact h _
      · have q2 := of_decide_eq_false q2
        exact rest fun z => q2 z.2
    · have q := of_decide_eq_false q
      exact rest fun z => q z.1
theorem lexL_app {a b : List Int} : ∀ c : List Int, lexL (c ++ a) (c ++ b) = lexL a b
  | [] => rfl
  | x :: c => by
    rw [List.cons_append, List.cons_append, lexL_cons, if_pos rfl]
    exact lexL_app c
theorem ff_pre {g : Int → Int → Bool} : ∀ (n : Nat) (ch lf sh : List Int), ∀ S ∈ ff g n ch lf sh, ∃ T, S = ch ++ T
  | 0, _, _, _, S, h => by cases h
  | n + 1, ch, lf, sh, S, h => by
    unfold ff at h
    split at h
    · exact ⟨[], by rw [List.append_nil]; exact List.mem_singleton.mp h⟩
    · obtain ⟨i, hi, h⟩ := List.mem_flatMap.mp h
      obtain ⟨T, rfl⟩ := ff_pre n _ _ _ S h
      exact ⟨atZ lf i :: T, by simp⟩
theorem ff_up {g : Int → Int → Bool} : ∀ (n : Nat) (ch lf sh : List Int), lf.Pairwise (· < ·) → (ff g n ch lf sh).Pairwise (fun a b => lexL a b = true)
  | 0, _, _, _, _ => .nil
  | n + 1, ch, lf, sh, hu => by
    unfold ff
    split
    · exact List.pairwise_singleton _ _
    · refine List.pairwise_flatMap.mpr ⟨fun i hi => ff_up n _ _ _ ((hu.sublist (List.drop_sublist _ _)).filter _), (List.pairwise_lt_range (n := lf.length)).imp_of_mem fun {i j} hi hj hij => ?_⟩
      intro S hS T hT
      obtain ⟨S', rfl⟩ := ff_pre n _ _ _ S hS
      obtain ⟨T', rfl⟩ := ff_pre n _ _ _ T hT
      have hj := List.mem_range.mp hj
      have lt : atZ lf i < atZ lf j := by
        have := List.pairwise_iff_getElem.mp hu i j (by omega) hj hij
        simpa [atZ, List.getD_eq_getElem?_getD, List.getElem?_eq_getElem hj, List.getElem?_eq_getElem (show i < lf.length by omega)] using this
      rw [List.append_assoc, List.append_assoc, lexL_app]
      show lexL (atZ lf i :: S') (atZ lf j :: T') = true
      rw [lexL_cons, if_neg (by omega)]
      exact decide_eq_true lt
/-- the full sets of n places -/
def fulls (w : Bool) (n : Int) (ts : List (Int × Int)) : List (List Int) := ff (fun a b => Tb ts a b == w) 16 [] (rangeI n.toNat) []
theorem fulls_up {w : Bool} {n : Int} {ts : List (Int × Int)} : (fulls w n ts).Pairwise (fun a b => lexL a b = true) := ff_up _ _ _ _ (List.pairwise_map.mpr ((List.pairwise_lt_range (n := n.toNat)).imp fun {a b} h => by omega))
theorem fulls_len {w : Bool} {n : Int} {ts : List (Int × Int)} (g : Good n ts) : (fulls w n ts).length ≤ 1024 := by
  refine Nat.le_trans (ff_len _ _ _ _) ?_
  rw [rangeI_len]
  exact Nat.le_trans (Nat.pow_le_pow_right (by decide) (show n.toNat ≤ 10 by have := g.n10; omega)) (by decide)
theorem fulls_some {w : Bool} {n : Int} {ts : List (Int × Int)} : 2 ≤ (fulls w n ts).length → ∀ s ∈ fulls w n ts, s ≠ [] := by
  intro hl s hs
  unfold fulls ff at hl hs
  split at hl
  · simp at hl
  · split at hs
    · contradiction
    · obtain ⟨i, hi, h⟩ := List.mem_flatMap.mp hs
      obtain ⟨T, rfl⟩ := ff_pre _ _ _ _ s h
      simp
theorem ff_short {g : Int → Int → Bool} : ∀ (n : Nat) (ch lf sh : List Int), ∀ S ∈ ff g n ch lf sh, S.length ≤ ch.length + lf.length
  | 0, _, _, _, S, h => by cases h
  | n + 1, ch, lf, sh, S, h => by
    unfold ff at h
    split at h
    · rw [List.mem_singleton.mp h]; omega
    · obtain ⟨i, hi, h⟩ := List.mem_flatMap.mp h
      have hi := List.mem_range.mp hi
      have ih := ff_short n _ _ _ S h
      have := List.length_filter_le (g (atZ lf i)) (lf.drop (i + 1))
      rw [List.length_drop] at this
      rw [List.length_append, List.length_singleton] at ih
      omega
theorem fulls_short {w : Bool} {n : Int} {ts : List (Int × Int)} (g : Good n ts) : ∀ s ∈ fulls w n ts, s.length ≤ 10 := fun s hs => by
  have h1 := ff_short _ _ _ _ s hs
  rw [rangeI_len, List.length_nil] at h1
  have := g.n10
  omega
theorem full_apart_in_ok {n : Int} {ts : List (Int × Int)} (g : Good n ts) {X : XF} {Q : R → S → Prop} (h : ∀ fin, Q (.own (.l ((fulls false n ts).map tupI))) fin) : m_full_apart_in [.d (webD n ts)] X Q := by
  unfold m_full_apart_in b_full_apart_in
  have n0 := g.n0
  have n10 := g.n10
  refine st_sem rfl ?_
  array_get_dec
  refine rows_of_ok g fun fin => ?_
  array_get_dec
  refine all_places_ok g fun fin => ?_
  array_get_dec
  refine full_from_ok (n := n.toNat) (f := Tb ts) (w := false) 16 [] (rangeI n.toNat) [] (by rw [rangeI_len]; omega) (by rw [rangeI_len]; show _ + 0 ≤ 10; omega) (by rw [rangeI_len]; show 0 + _ ≤ 10; omega) (fun z hz => by
    rw [List.append_nil] at hz
    exact rangeI_mem.mp hz) _ _ fun fin => ?_
  array_get_dec
  refine st_sort_t fulls_some fun mss hp hs => ?_
  have e : mss = fulls false n ts := sort_one hp hs (fulls_up.imp fun h => lexL_asym h)
  rw [e]
  array_get_dec
  exact h _
def Clq (g : Int → Int → Bool) (T : List Int) : Prop := T.Pairwise fun a b => g a b = true
theorem ff_clq {g : Int → Int → Bool} : ∀ (n : Nat) (ch lf sh : List Int), ∀ S ∈ ff g n ch lf sh, ∃ T, S = ch ++ T ∧ T.Sublist lf ∧ Clq g T
  | 0, _, _, _, S, h => by cases h
  | n + 1, ch, lf, sh, S, h => by
    unfold ff at h
    split at h
    · exact ⟨[], by rw [List.append_nil]; exact List.mem_singleton.mp h, List.nil_sublist _, .nil⟩
    · obtain ⟨i, hi, h⟩ := List.mem_flatMap.mp h
      have hi := List.mem_range.mp hi
      obtain ⟨T, rfl, h1, h2⟩ := ff_clq n _ _ _ S h
      have e : lf.drop i = atZ lf i :: lf.drop (i + 1) := by
        rw [List.drop_eq_getElem_cons hi]
        simp [atZ, List.getD_eq_getElem?_getD, hi]
      refine ⟨atZ lf i :: T, by simp, ?_, List.pairwise_cons.mpr ⟨fun b hb => (List.mem_filter.mp (h1.subset hb)).2, h2⟩⟩
      have s1 : (atZ lf i :: T).Sublist (lf.drop i) := by
        rw [e]
        exact List.Sublist.cons_cons _ (h1.trans List.filter_sublist)
      exact s1.trans (List.drop_sublist _ _)
/-- a crowd, or an apart set, of a web -/
def TClq (w : Bool) (ts : List (Int × Int)) (T : List Int) : Prop := T.Pairwise fun a b => Tb ts a b = w
theorem fulls_clq {w : Bool} {n : Int} {ts : List (Int × Int)} : ∀ S ∈ fulls w n ts, S.Sublist (rangeI n.toNat) ∧ TClq w ts S := fun S hS => by
  obtain ⟨T, rfl, h1, h2⟩ := ff_clq _ _ _ _ S hS
  exact ⟨h1, h2.imp fun h => by simpa using h⟩
theorem rangeI_nd {n : Nat} : (rangeI n).Nodup := (List.pairwise_map.mpr ((List.pairwise_lt_range (n := n)).imp fun {a b} h => by omega) : (rangeI n).Pairwise (· < ·)).imp fun {a b} h => by omega
theorem rangeI_snoc {n : Nat} : rangeI (n + 1) = rangeI n ++ [(n : Int)] := by
  unfold rangeI
  rw [List.range_succ, List.map_append]
  rfl
theorem rising_sub : ∀ (n : Nat) (T : List Int), T.Pairwise (· < ·) → (∀ z ∈ T, 0 ≤ z ∧ z < n) → T.Sublist (rangeI n)
  | 0, T, _, h => by
    cases T with
    | nil => exact List.nil_sublist _
    | cons z r => have := h z List.mem_cons_self; omega
  | n + 1, T, hu, h => by
    rw [rangeI_snoc]
    rcases List.eq_nil_or_concat T with rfl | ⟨T', z, e⟩
    · exact List.nil_sublist _
    · rw [List.concat_eq_append] at e
      subst e
      obtain ⟨u1, _, u3⟩ := List.pairwise_append.mp hu
      have hz := h z (by simp)
      by_cases e : z = n
      · subst e
        refine List.Sublist.append (rising_sub n T' u1 fun y hy => ?_) (List.Sublist.refl _)
        have := u3 y hy n (by simp)
        have := h y (by simp [hy])
        omega
      · refine (rising_sub n _ hu fun y hy => ?_).trans (List.sublist_append_left _ _)
        have hy0 := h y hy
        rcases List.mem_append.mp hy with hy | hy
        · have := u3 y hy z (by simp)
          omega
        · obtain rfl := List.mem_singleton.mp hy
          omega
end Lk51
namespace Lk51
open PySem Hs
local macro_rules
  | `(tactic| sizeOf_list_dec) => `(tactic| first
    | with_reducible refine st_seq ?_ | with_reducible refine st_asg ?_ | with_reducible refine st_cons ?_ | with_reducible refine st_nil ?_ | with_reducible refine st_C ?_ | with_reducible refine st_op ?_
    | with_reducible refine st_var_d ?_ | with_reducible refine st_var_l ?_ | with_reducible refine st_var_ll ?_ | with_reducible refine st_var_dc ?_
    | with_reducible refine st_look_d ?_ | with_reducible refine st_look_top ?_ | with_reducible refine st_look_top_d ?_ | with_reducible refine st_look_own ?_ | with_reducible refine st_look_top_dc ?_ | with_reducible refine st_look_own_dc ?_ | with_reducible refine st_put_d ?_ | with_reducible refine st_put_own ?_ | with_reducible refine st_put_top_l ?_ | with_reducible refine st_put_top_ll ?_ | with_reducible refine st_put_top_dc ?_
    | ((with_reducible refine st_callF ?_ ?_); eq_refl) | with_reducible refine st_call ?_ | with_reducible refine st_putK_nil ?_ | with_reducible refine st_putK_t ?_ | with_reducible refine st_putK_f ?_ | with_reducible refine st_putK_td ?_ | with_reducible refine st_putK_to ?_ | with_reducible refine st_bind_nil ?_ | with_reducible refine st_bind_f ?_ | with_reducible refine st_bind_tt ?_ | with_reducible refine st_bind_td ?_ | with_reducible refine st_bind_to ?_
    | with_reducible refine st_frz_d ?_ | with_reducible refine st_frz_own ?_ | with_reducible refine st_frz_top ?_ | with_reducible refine st_frz_own_ll ?_ | with_reducible refine st_frz_own_dc ?_ | with_reducible refine st_frz_top_ll ?_ | with_reducible refine st_frz_top_dc ?_ | with_reducible refine st_frzAll_nil ?_ | with_reducible refine st_frzAll_cons ?_
    | with_reducible refine st_if ?_ | with_reducible refine st_B ?_ | with_reducible refine st_and ?_ | with_reducible refine st_or ?_ | with_reducible refine st_not ?_ | with_reducible refine st_yes ?_ | with_reducible refine st_isB ?_ | with_reducible refine st_t ?_ | with_reducible refine st_f ?_ | ((with_reducible refine st_iteT ?_ ?_); decide) | ((with_reducible refine st_iteF ?_ ?_); decide)
    | with_reducible refine st_nt ?_ | with_reducible refine st_nf ?_
    | with_reducible refine st_ret ?_ | with_reducible refine st_next ?_ | with_reducible refine st_retN ?_ | with_reducible refine st_drop ?_ | with_reducible refine st_break ?_ | with_reducible refine st_raise ?_
    | with_reducible refine st_out_d ?_ | with_reducible refine st_out_own ?_ | with_reducible refine st_out_top ?_
    | with_reducible refine st_tup ?_ | with_reducible refine st_lst ?_ | with_reducible refine st_un ?_ | with_reducible refine st_blt ?_ | with_reducible refine st_lookAll_nil ?_ | with_reducible refine st_lookAll_cons ?_
    | with_reducible refine st_unp ?_ | with_reducible refine st_par ?_ | with_reducible refine st_setIx ?_ | with_reducible refine st_onL ?_ | with_reducible refine st_for ?_ | with_reducible refine st_wipe_nil ?_ | with_reducible refine st_wipe_cons ?_ | with_reducible refine st_andV ?_ | with_reducible refine st_orV ?_ | with_reducible refine st_notV ?_ | with_reducible refine st_ifE ?_ | with_reducible refine st_chain ?_
    | with_reducible refine st_sl ?_ | with_reducible refine st_noPart ?_ | with_reducible refine st_part ?_ | with_reducible refine st_lc ?_ | with_reducible refine st_lm ?_
    | with_reducible refine st_seqI ?_ | with_reducible refine st_range1 ?_ | with_reducible refine st_range2 ?_ | with_reducible refine st_enum ?_ | with_reducible refine st_zip ?_
    | with_reducible refine st_nm ?_ | with_reducible refine st_tp ?_ | with_reducible refine st_tps_nil ?_ | with_reducible refine st_tps_cons ?_
    | ((with_reducible refine st_mod_i ?_ ?_); (first | decide | omega)) | ((with_reducible refine st_fdiv_i ?_ ?_); decide) 
    | with_reducible refine st_add_i ?_ | with_reducible refine st_sub_i ?_ | with_reducible refine st_neg_i ?_ | with_reducible refine st_eq_i ?_ | with_reducible refine st_ne_i ?_ | with_reducible refine st_eq_str ?_ | with_reducible refine st_ne_str ?_ | with_reducible refine st_eq_b ?_ | with_reducible refine st_ne_b ?_ | with_reducible refine st_lt_i ?_ | with_reducible refine st_le_i ?_ | with_reducible refine st_gt_i ?_ | with_reducible refine st_ge_i ?_
    | with_reducible refine st_is_n ?_ | with_reducible refine st_isNot_n ?_ | with_reducible refine st_is_b ?_ | with_reducible refine st_isNot_b ?_ | ((with_reducible refine st_ix_l (x := ?_) ?_ ?_); rotate_left; eq_refl) | ((with_reducible refine st_ix_t (x := ?_) ?_ ?_); rotate_left; eq_refl) | with_reducible refine st_len_l ?_ | with_reducible refine st_len_t ?_ | with_reducible refine st_len_lit ?_
    | with_reducible refine st_abs ?_ | with_reducible refine st_max2 ?_ | with_reducible refine st_min2 ?_ | with_reducible refine st_int_i ?_ | with_reducible refine st_int_b ?_ | with_reducible refine st_tuple_l ?_ | with_reducible refine st_tuple_t ?_ | with_reducible refine st_list_l ?_ | with_reducible refine st_list_t ?_ | ((with_reducible refine st_isT ?_ ?_); eq_refl) | ((with_reducible refine st_isTT ?_ ?_); eq_refl) | ((with_reducible refine st_isTF ?_ ?_); eq_refl) | ((with_reducible refine st_isNT ?_ ?_); eq_refl) | ((with_reducible refine st_isNF ?_ ?_); eq_refl)
    | with_reducible refine st_rg1 ?_ | with_reducible refine st_rg2 ?_ | with_reducible refine st_enumL ?_ | with_reducible refine st_zipS ?_ | with_reducible refine st_rev_l ?_ | with_reducible refine st_rev_t ?_
    | with_reducible refine st_ne_ll ?_ | with_reducible refine st_ne_lit ?_ | with_reducible refine st_in_pt ?_ | with_reducible refine st_in_pl ?_
    | with_reducible refine st_sl_l ?_ | with_reducible refine st_sl_t ?_
    | ((with_reducible refine st_iteLen ?_ ?_); eq_refl) | ((with_reducible refine st_iteNLen ?_ ?_); eq_refl) | with_reducible refine st_iteBB ?_ | ((with_reducible refine st_iteND ?_ ?_); omega) | ((with_reducible refine st_iteNF ?_ ?_); omega)
    | ((with_reducible refine st_iteT (decide_eq_true ?_) ?_); omega) | ((with_reducible refine st_iteF (decide_eq_false ?_) ?_); omega))
local macro_rules
  | `(tactic| sizeOf_list_dec) => `(tactic| with_reducible refine stepTo ?_)
local macro_rules
  | `(tactic| array_get_dec) => `(tactic| repeat sizeOf_list_dec)
local macro_rules
  | `(tactic| sizeOf_list_dec) => `(tactic| first | with_reducible refine st_ix2_l ?_ | with_reducible refine st_ix2_t ?_ | with_reducible refine st_ix2_s ?_ | with_reducible refine st_ix2_lit ?_ | with_reducible refine st_inK_l ?_ | with_reducible refine st_inK_t ?_ | with_reducible refine st_ninK_l ?_ | with_reducible refine st_ninK_t ?_ | with_reducible refine st_setD ?_ | with_reducible refine st_onDc ?_ | with_reducible refine st_dget2 ?_ | with_reducible refine st_emT ?_ | with_reducible refine st_emD ?_ | with_reducible refine st_disp1 ?_ | with_reducible refine st_disp1k ?_ | with_reducible refine st_range3 ?_ | with_reducible refine st_bor ?_ | with_reducible refine st_borT ?_ | with_reducible refine st_bindT_nil ?_ | with_reducible refine st_bindT_d ?_ | with_reducible refine st_bindT_o ?_ | with_reducible refine st_bindT_t ?_ | with_reducible refine st_toPs_nil ?_ | with_reducible refine st_toPs_d ?_ | with_reducible refine st_toPs_l ?_ | with_reducible refine st_toPs_dc ?_ | with_reducible refine st_tupO ?_ | with_reducible refine st_var_tp ?_ | with_reducible refine st_frz_own_tp ?_ | with_reducible refine st_frz_top_tp ?_ | with_reducible refine st_lmP ?_ | ((with_reducible refine st_onP ?_ ?_); eq_refl) | with_reducible refine st_flat_b ?_ | with_reducible refine st_flat_i ?_)
local macro_rules
  | `(tactic| sizeOf_list_dec) => `(tactic| first | with_reducible refine st_fld_d ?_ | with_reducible refine st_fld_ob ?_ | with_reducible refine st_var_ob ?_ | with_reducible refine st_toPV_d ?_ | with_reducible refine st_toPV_l ?_ | with_reducible refine st_toPV_top_l ?_ | ((with_reducible refine st_obSet ?_ ?_); (exact Nat.le_of_ble_eq_true rfl)) | with_reducible refine st_setF ?_ | with_reducible refine st_setFI ?_ | with_reducible refine st_lmF ?_ | with_reducible refine st_meth_ob ?_ | with_reducible refine st_meth_d ?_ | with_reducible refine st_make ?_ | with_reducible refine st_mkK ?_ | with_reducible refine st_ixP ?_ | with_reducible refine st_zipM ?_)
local macro_rules
  | `(tactic| sizeOf_list_dec) => `(tactic| first | ((with_reducible refine st_gFld ?_ ?_); (exact Nat.le_of_ble_eq_true rfl)) | with_reducible refine st_par3 ?_ | with_reducible refine st_par3K ?_ | with_reducible refine st_lmT ?_ | with_reducible refine st_onOwnL ?_ | with_reducible refine st_onDs_nil ?_ | with_reducible refine st_onDs_cons ?_ | with_reducible refine st_clearT ?_)
local macro_rules
  | `(tactic| sizeOf_list_dec) => `(tactic| first | ((with_reducible refine st_isX (b := false) ?_ ?_); (decide +kernel)) | ((with_reducible refine st_isX (b := true) ?_ ?_); (decide +kernel)) | with_reducible refine st_try ?_)
local macro_rules
  | `(tactic| sizeOf_list_dec) => `(tactic| with_reducible refine is_whole_ok fun _ => ?_)
local macro_rules
  | `(tactic| sizeOf_list_dec) => `(tactic| first | with_reducible refine st_in_il ?_ | with_reducible refine st_in_it ?_ | with_reducible refine st_notIn_il ?_ | with_reducible refine st_notIn_it ?_ | with_reducible refine st_ne_ll ?_)
local macro_rules
  | `(tactic| sizeOf_list_dec) => `(tactic| first | with_reducible refine st_lcK ?_ | with_reducible refine st_rowOf ?_)
def low (a b : Int) : Int × Int := (a / (Int.gcd a b : Nat), b / (Int.gcd a b : Nat))
theorem gcd_pair {y x n : Nat} : ((x : Int) % (n : Int)) = ((x % n : Nat) : Int) := by simp
theorem divisor_ok {a b : Int} {X : XF} {Q : R → S → Prop} (h : ∀ fin, Q (.d (.int (Int.gcd a b))) fin) : m_divisor [.d (.int a), .d (.int b)] X Q := by
  unfold m_divisor b_divisor
  refine st_sem rfl ?_
  array_get_dec
  refine loop_while (fun n s => ∃ x : Nat, s = [.d (.int x), .d (.int n)] ∧ Nat.gcd x n = Int.gcd a b) ?_ b.natAbs ⟨a.natAbs, rfl, rfl⟩
  rintro n s k ⟨x, rfl, hg⟩ hk
  array_get_dec
  refine st_ite (fun c => ?_) (fun c => ?_)
  · have c := of_decide_eq_true c
    array_get_dec
    refine hk (x % n) _ (Nat.mod_lt _ (by omega)) ⟨n, ?_, ?_⟩
    · show [SV.d (.int _), SV.d (.int _)] = _
      rw [gcd_pair (y := 0)]
    · rw [← hg, Nat.gcd_comm n, Nat.gcd_comm x n, Nat.gcd_rec n x]
  · have c := of_decide_eq_false c
    obtain rfl : n = 0 := by omega
    array_get_dec
    rw [Nat.gcd_zero_right] at hg
    subst hg
    exact h _
/-- the program's lowest -/
theorem lowest_ok {a b : Int} {p : Nat} (hb : 0 < b) (hs : b.natAbs < 2 ^ 8999) {X : XF} {Q : R → S → Prop} (h : ∀ fin, Q (.d (.tuple [.int (a / Int.gcd a b), .int (b / Int.gcd a b)])) fin) : m_lowest [.d (.int a), .d (.int b)] X Q := by
  unfold m_lowest b_lowest
  refine st_sem rfl ?_
  array_get_dec
  refine divisor_ok fun fin => ?_
  have hg : 0 < Int.gcd a b := Int.gcd_pos_of_ne_zero_right _ (by omega)
  have hle : Int.gcd a b ≤ b.natAbs := Nat.le_of_dvd (by omega) (Int.gcd_dvd_natAbs_right a b)
  have ok : okD (Int.gcd a b : Nat) := okD_of 8999 (by omega) (by omega)
  array_get_dec
  refine st_fdiv_i ok ?_
  array_get_dec
  refine st_fdiv_i ok ?_
  array_get_dec
  exact h _
abbrev rowD (r : List Int) : D := .list (r.map .int)
abbrev obZ (P M : Nat) (d : Int) (rows : List (List Int)) (bel wk : List Int) : D := obD "Rows" [(.str "places", .int P), (.str "many", .int M), (.str "common", .int d), (.str "rows", .list (rows.map rowD)), (.str "below", .list (bel.map .int)), (.str "at_work", .list (wk.map .int))]
abbrev obF (P M : Nat) (d : Int) (rows : List (List Int)) (bel wk : List Int) : SV := .ob "Rows" [("places", .d (.int P)), ("many", .d (.int M)), ("common", .d (.int d)), ("rows", .l (rows.map rowD)), ("below", .l (bel.map .int)), ("at_work", .l (wk.map .int))]
theorem zipD_ints : ∀ xs ys : List Int, zipD (xs.map PyData.int) (ys.map PyData.int) = (xs.zip ys).map pairD
  | [], _ => by simp [zipD]
  | _ :: _, [] => by simp [zipD]
  | x :: xs, y :: ys => by
    have := zipD_ints xs ys
    unfold zipD at this ⊢
    simp only [List.map_cons, List.zipWith_cons_cons, List.zip_cons_cons, this]
theorem atI_map {α : Type} {f : α → D} {xs : List α} {q : Nat} {a : α} (h : xs[q]? = some a) : L2.atI (xs.map f) (q : Int) = some (f a) := L2.atI_nat (by rw [List.getElem?_map, h]; rfl)
theorem cleared_ok {P M : Nat} {d : Int} {rows : List (List Int)} {bel wk xs ys : List Int} {q : Nat} {a b : Int} (hx : xs[q]? = some a) (hy : ys[q]? = some b) (hz : xs.length ≤ 2000) (hd : okD d) (bx : ∀ z ∈ xs, z.natAbs < 2 ^ 1000) (b2 : ∀ z ∈ ys, z.natAbs < 2 ^ 1000) {X : XF} {Q : R → S → Prop}
    (h : ∀ fin, Q (.own (.l (((xs.zip ys).map fun p => (p.1 * b - a * p.2) / d).map .int))) fin) : m_Rows_cleared [.d (obZ P M d rows bel wk), .d (rowD xs), .d (rowD ys), .d (.int q)] X Q := by
  unfold m_Rows_cleared b_Rows_cleared
  refine st_sem rfl ?_
  array_get_dec
  refine st_ix_l (x := .int b) (atI_map hy) ?_
  array_get_dec
  refine st_ix_l (x := .int a) (atI_map hx) ?_
  array_get_dec
  dsimp only [rowD]
  rw [zipD_ints]
  have hl : (xs.zip ys).length ≤ 2000 := by rw [List.length_zip]; omega
  refine ⟨by rw [List.length_map]; show _ ≤ 16777216; omega, ?_⟩
  array_get_dec
  have ha : a.natAbs < 2 ^ 1000 := bx a (List.mem_of_getElem? hx)
  have hb : b.natAbs < 2 ^ 1000 := b2 b (List.mem_of_getElem? hy)
  refine comp_list pairD (fun p => .int ((p.1 * b - a * p.2) / d)) _ (fun p hp kT hkT => ?_) ?_
  · obtain ⟨x, y⟩ := p
    have h1 := bx x (List.of_mem_zip hp).1
    have h2 := b2 y (List.of_mem_zip hp).2
    rw [show pairD (x, y) = PyData.tuple [.int x, .int y] from rfl]
    array_get_dec
    refine st_mul_i (okM_of 1000 1000 h1 hb) ?_
    array_get_dec
    refine st_mul_i (okM_of 1000 1000 ha h2) ?_
    array_get_dec
    refine st_fdiv_i hd ?_
    array_get_dec
    exact hkT
  · array_get_dec
    have e : ((xs.zip ys).map fun p => PyData.int ((p.1 * b - a * p.2) / d)) = ((xs.zip ys).map fun p => (p.1 * b - a * p.2) / d).map .int := by rw [List.map_map]; rfl
    rw [e]
    exact h _
theorem entering_ok {P M : Nat} {d : Int} {rows : List (List Int)} {bel wk : List Int} (hz : P + M < bel.length) (hs : P + M < 2000) {X : XF} {Q : R → S → Prop}
    (h1 : ∀ (q : Nat) fin, q < P + M → bel.getD q 0 < 0 → (∀ j, j < q → 0 ≤ bel.getD j 0) → Q (.d (.int q)) fin) (h2 : ∀ fin, (∀ j, j < P + M → 0 ≤ bel.getD j 0) → Q (.d .none) fin) : m_Rows_entering [.d (obZ P M d rows bel wk)] X Q := by
  unfold m_Rows_entering b_Rows_entering
  refine st_sem rfl ?_
  array_get_dec
  refine ⟨⟨by omega, by omega⟩, ?_⟩
  array_get_dec
  refine loop_range1 (fun i s => (s = [.d (obZ P M d rows bel wk), .no]) ∧ 0 ≤ i ∧ i ≤ (P : Int) + M ∧ ∀ j : Nat, (j : Int) < i → 0 ≤ bel.getD j 0) (fun s hI => ?_) ?_ ⟨rfl, by omega, by omega, fun j hj => by omega⟩
  · obtain ⟨rfl, _, _, hI⟩ := hI
    array_get_dec
    exact h2 _ fun j hj => hI j (by omega)
  · rintro i s k h0 hlt ⟨rfl, _, _, hI⟩ hk
    obtain ⟨j, rfl⟩ := Int.eq_ofNat_of_zero_le h0
    have hj : j < bel.length := by omega
    have e : bel[j]? = some (bel.getD j 0) := by rw [List.getD_eq_getElem?_getD, List.getElem?_eq_getElem hj]; rfl
    array_get_dec
    refine st_ix_l (x := .int (bel.getD j 0)) (atI_map e) ?_
    array_get_dec
    refine st_ite (fun c => ?_) (fun c => ?_)
    · array_get_dec
      exact h1 j _ (by omega) (of_decide_eq_true c) fun i hi => hI i (by omega)
    · array_get_dec
      refine hk _ ⟨rfl, by omega, by omega, fun i hi => ?_⟩
      by_cases hij : i = j
      · subst hij
        have := of_decide_eq_false c
        omega
      · exact hI i (by omega)
/-- a row's number at a column -/
def nAt (rows : List (List Int)) (k j : Nat) : Int := (rows.getD k []).getD j 0
theorem rowAt {rows : List (List Int)} {k : Nat} (h : k < rows.length) : L2.atI (rows.map rowD) (k : Int) = some (rowD (rows.getD k [])) := atI_map (by rw [List.getD_eq_getElem?_getD, List.getElem?_eq_getElem h]; rfl)
theorem numAt {r : List Int} {j : Nat} (h : j < r.length) : L2.atI (r.map PyData.int) (j : Int) = some (.int (r.getD j 0)) := atI_map (by rw [List.getD_eq_getElem?_getD, List.getElem?_eq_getElem h]; rfl)
theorem numLast {r : List Int} {n : Nat} (h : r.length = n + 1) : L2.atI (r.map PyData.int) (-1) = some (.int (r.getD n 0)) := by
  unfold L2.atI L2.ixN
  rw [List.length_map, h, if_neg (by decide), if_pos (by omega), show ((-1 : Int) + ((n + 1 : Nat) : Int)).toNat = n by omega]
  show (r.map PyData.int)[n]? = _
  rw [List.getElem?_map, List.getElem?_eq_getElem (by omega), List.getD_eq_getElem?_getD, List.getElem?_eq_getElem (by omega)]; rfl
/-- what the rows hold is small -/
structure RowsOk (P M : Nat) (rows : List (List Int)) (wk : List Int) : Prop where
  len : rows.length = M
  wl : wk.length = M
  row : ∀ k, k < M → (rows.getD k []).length = P + M + 1
  small : ∀ k j, (nAt rows k j).natAbs < 2 ^ 200
def bmore (rows : List (List Int)) (wk : List Int) (n k f q : Nat) : Bool := if nAt rows k n * nAt rows f q = nAt rows f n * nAt rows k q then decide (wk.getD k 0 < wk.getD f 0) else decide (nAt rows k n * nAt rows f q < nAt rows f n * nAt rows k q)
theorem bounds_more_ok {P M : Nat} {d : Int} {rows : List (List Int)} {bel wk : List Int} (ro : RowsOk P M rows wk) {k f q : Nat} (hk : k < M) (hf : f < M) (hq : q < P + M) {X : XF} {Q : R → S → Prop}
    (h : ∀ fin, Q (.d (.bool (bmore rows wk (P + M) k f q))) fin) : m_Rows_bounds_more [.d (obZ P M d rows bel wk), .d (.int k), .d (.int f), .d (.int q)] X Q := by
  unfold m_Rows_bounds_more b_Rows_bounds_more
  refine st_sem rfl ?_
  have lk := ro.row k hk
  have lf := ro.row f hf
  have hl := ro.len
  have hw := ro.wl
  array_get_dec
  refine st_ix_l (rowAt (by omega)) ?_
  array_get_dec
  refine st_ix_l (numLast lk) ?_
  array_get_dec
  refine st_ix_l (rowAt (by omega)) ?_
  array_get_dec
  refine st_ix_l (numAt (by omega)) ?_
  array_get_dec
  refine st_mul_i (okM_of 200 200 (ro.small k _) (ro.small f _)) ?_
  array_get_dec
  refine st_ix_l (rowAt (by omega)) ?_
  array_get_dec
  refine st_ix_l (numLast lf) ?_
  array_get_dec
  refine st_ix_l (rowAt (by omega)) ?_
  array_get_dec
  refine st_ix_l (numAt (by omega)) ?_
  array_get_dec
  refine st_mul_i (okM_of 200 200 (ro.small f _) (ro.small k _)) ?_
  array_get_dec
  refine st_ite (fun c => ?_) (fun c => ?_)
  · have c : ¬ nAt rows k (P + M) * nAt rows f q = nAt rows f (P + M) * nAt rows k q := by
      have c2 := c
      rw [Bool.not_eq_true'] at c2
      exact of_decide_eq_false c2
    have e : bmore rows wk (P + M) k f q = decide (nAt rows k (P + M) * nAt rows f q < nAt rows f (P + M) * nAt rows k q) := if_neg c
    rw [e] at h
    array_get_dec
    exact h _
  · have c : nAt rows k (P + M) * nAt rows f q = nAt rows f (P + M) * nAt rows k q := by
      have c2 := c
      rw [Bool.not_eq_false'] at c2
      exact of_decide_eq_true c2
    have e : bmore rows wk (P + M) k f q = decide (wk.getD k 0 < wk.getD f 0) := if_pos c
    rw [e] at h
    array_get_dec
    refine st_ix_l (numAt (by omega)) ?_
    array_get_dec
    refine st_ix_l (numAt (by omega)) ?_
    array_get_dec
    exact h _
def moG (rows : List (List Int)) (wk : List Int) (n q k : Nat) : Option Nat → Bool
  | none => true
  | some f => bmore rows wk n k f q
def lvG (rows : List (List Int)) (wk : List Int) (n q : Nat) : Nat → Option Nat
  | 0 => none
  | k + 1 => if 0 < nAt rows k q ∧ moG rows wk n q k (lvG rows wk n q k) = true then some k else lvG rows wk n q k
theorem lvG_lt {rows : List (List Int)} {wk : List Int} {n q f : Nat} : ∀ k, lvG rows wk n q k = some f → f < k
  | 0, h => by cases h
  | k + 1, h => by
    unfold lvG at h
    split at h
    · cases h; omega
    · have := lvG_lt k h; omega
def optD : Option Nat → D
  | none => .none
  | some k => .int k
theorem enum_rows {rows : List (List Int)} : enumD (rows.map rowD) = (List.range rows.length).map fun (k : Nat) => .tuple [.int k, rowD (rows.getD k [])] := by
  have := enum_map (f := rowD) (ks := rows) (i := rows.length) (Nat.le_refl _)
  rw [List.take_length] at this
  rw [this]
  refine List.map_congr_left fun k hk => ?_
  have hk := List.mem_range.mp hk
  rw [List.getD_eq_getElem?_getD, List.getD_eq_getElem?_getD, List.getElem?_eq_getElem hk]
  rfl
theorem leaving_ok {P M : Nat} {d : Int} {rows : List (List Int)} {bel wk : List Int} (ro : RowsOk P M rows wk) {q : Nat} (hq : q < P + M) {X : XF} {Q : R → S → Prop}
    (h : ∀ fin, Q (.d (optD (lvG rows wk (P + M) q M))) fin) : m_Rows_leaving [.d (obZ P M d rows bel wk), .d (.int q)] X Q := by
  unfold m_Rows_leaving b_Rows_leaving
  refine st_sem rfl ?_
  have hl := ro.len
  array_get_dec
  rw [enum_rows, hl]
  refine loop_nat (fun k s => s = [.d (obZ P M d rows bel wk), .d (.int q), .d (optD (lvG rows wk (P + M) q k)), .no, .no]) (fun s e => ?_) ?_ rfl
  · subst e
    array_get_dec
    exact h _
  · rintro k s kk hk rfl hkk
    have lk := ro.row k hk
    array_get_dec
    refine st_ix_l (numAt (by omega)) ?_
    array_get_dec
    have nx : ∀ b : Bool, (b = true ↔ 0 < nAt rows k q ∧ moG rows wk (P + M) q k (lvG rows wk (P + M) q k) = true) → lvG rows wk (P + M) q (k + 1) = if b = true then some k else lvG rows wk (P + M) q k := fun b hb => by
      show (if _ then _ else _) = _
      by_cases c : b = true
      · rw [if_pos c, if_pos (hb.mp c)]
      · rw [if_neg c, if_neg (fun z => c (hb.mpr z))]
    refine st_ite (fun c => ?_) (fun c => ?_)
    · have c : 0 < nAt rows k q := of_decide_eq_true c
      cases e : lvG rows wk (P + M) q k with
      | none =>
        rw [e] at nx
        dsimp only [optD]
        array_get_dec
        refine hkk _ ?_
        rw [nx true (by simp [c, moG])]
        rfl
      | some f =>
        have hf := lvG_lt k e
        rw [e] at nx
        dsimp only [optD]
        array_get_dec
        refine st_iteF rfl ?_
        array_get_dec
        refine bounds_more_ok ro hk (by omega) hq fun fin => ?_
        array_get_dec
        refine st_ite (fun c2 => ?_) (fun c2 => ?_)
        · array_get_dec
          refine hkk _ ?_
          rw [nx true (by simp [c, c2, moG])]
          rfl
        · array_get_dec
          refine hkk _ ?_
          rw [nx false (by simp [c2, moG])]
          rfl
    · have c : ¬ 0 < nAt rows k q := of_decide_eq_false c
      array_get_dec
      refine hkk _ ?_
      rw [nx false (by simp [c])]
      rfl
section
variable (P : Nat) (Ss : List (List Int)) (ws : List Int)
abbrev TT (β : Nat → Nat) (k j : Nat) : Int := LP.Tk Ss.length (LP.acol P Ss) β k j
abbrev DD (β : Nat → Nat) : Int := LP.dB Ss.length (LP.acol P Ss) β
abbrev BB (β : Nat → Nat) (j : Nat) : Int := LP.bl Ss.length (LP.acol P Ss) (LP.cwant P ws) β j
abbrev TabB (β : Nat → Nat) : Prop := LP.Tab Ss.length (P + Ss.length) (LP.acol P Ss) β
def rowB (β : Nat → Nat) (k : Nat) : List Int := (List.range (P + Ss.length + 1)).map fun j => TT P Ss β k j
def rowsB (β : Nat → Nat) : List (List Int) := (List.range Ss.length).map (rowB P Ss β)
def belB (β : Nat → Nat) : List Int := (List.range (P + Ss.length + 1)).map fun j => BB P Ss ws β j
def wkB (β : Nat → Nat) : List Int := (List.range Ss.length).map fun k => (β k : Int)
abbrev obB (β : Nat → Nat) : SV := obF P Ss.length (DD P Ss β) (rowsB P Ss β) (belB P Ss ws β) (wkB Ss β)
abbrev zB (β : Nat → Nat) : D := obZ P Ss.length (DD P Ss β) (rowsB P Ss β) (belB P Ss ws β) (wkB Ss β)
end
theorem getD_rangeMap {α : Type} {n k : Nat} {f : Nat → α} {d : α} (h : k < n) : ((List.range n).map f).getD k d = f k := by
  rw [List.getD_eq_getElem?_getD, List.getElem?_map, List.getElem?_eq_getElem (by rw [List.length_range]; exact h), List.getElem_range]; rfl
theorem get?_rangeMap {α : Type} {n k : Nat} {f : Nat → α} (h : k < n) : ((List.range n).map f)[k]? = some (f k) := by
  rw [List.getElem?_map, List.getElem?_eq_getElem (by rw [List.length_range]; exact h), List.getElem_range]; rfl
theorem set_rangeMap {α : Type} {n k : Nat} {f : Nat → α} {x : α} : ((List.range n).map f).set k x = (List.range n).map fun i => if i = k then x else f i := by
  apply List.ext_getElem
  · simp
  · intro i h1 h2
    rw [List.getElem_set]
    simp only [List.getElem_map, List.getElem_range]
    by_cases h : k = i
    · rw [if_pos h, if_pos h.symm]
    · rw [if_neg h, if_neg (Ne.symm h)]
section
variable {P : Nat} {Ss : List (List Int)} {ws : List Int} {β : Nat → Nat}
theorem nAtB {k j : Nat} (hk : k < Ss.length) (hj : j < P + Ss.length + 1) : nAt (rowsB P Ss β) k j = TT P Ss β k j := by
  unfold nAt rowsB
  rw [getD_rangeMap hk]
  unfold rowB
  rw [getD_rangeMap hj]
theorem rowB_get {k j : Nat} (h : j < P + Ss.length + 1) : (rowB P Ss β k)[j]? = some (TT P Ss β k j) := get?_rangeMap h
theorem belB_get {j : Nat} (h : j < P + Ss.length + 1) : (belB P Ss ws β)[j]? = some (BB P Ss ws β j) := get?_rangeMap h
theorem cnt_filter {f : Nat → Bool} : ∀ n, LP.cnt n f = ((List.range n).filter f).length
  | 0 => rfl
  | n + 1 => by
    rw [List.range_succ, List.filter_append, List.length_append]
    show LP.cnt n f + (if f n = true then 1 else 0) = _
    rw [cnt_filter n]
    by_cases h : f n = true
    · rw [if_pos h, List.filter_cons_of_pos h]; rfl
    · rw [if_neg h, List.filter_cons_of_neg h]; rfl
theorem cnt_le {f : Nat → Bool} {n m : Nat} {g : Nat → Nat} (inj : ∀ i j, i < n → j < n → g i = g j → i = j) (h : ∀ i, i < n → f i = true → g i < m) : LP.cnt n f ≤ m := by
  rw [cnt_filter]
  have nd : (((List.range n).filter f).map g).Nodup := by
    refine List.Pairwise.map _ (R := fun i j => i ≠ j ∧ i < n ∧ j < n) (fun i j hij e => hij.1 (inj i j hij.2.1 hij.2.2 e)) ?_
    refine List.Pairwise.imp_of_mem (R := fun i j => i ≠ j) (fun {i j} hi hj e => ⟨e, List.mem_range.mp (List.mem_filter.mp hi).1, List.mem_range.mp (List.mem_filter.mp hj).1⟩) (List.Pairwise.filter _ List.nodup_range)
  have := LP.nodup_leN (m := List.range m) nd fun z hz => by
    obtain ⟨i, hi, rfl⟩ := List.mem_map.mp hz
    obtain ⟨h1, h2⟩ := List.mem_filter.mp hi
    exact List.mem_range.mpr (h i (List.mem_range.mp h1) h2)
  rw [List.length_map, List.length_range] at this
  exact this
theorem cnt_put {f g : Nat → Bool} {k : Nat} : ∀ n, (∀ i, i ≠ k → f i = g i) → LP.cnt n f ≤ LP.cnt n g + 1
  | 0, _ => by show 0 ≤ _; omega
  | n + 1, h => by
    show LP.cnt n f + (if f n = true then 1 else 0) ≤ LP.cnt n g + (if g n = true then 1 else 0) + 1
    by_cases e : n = k
    · have : LP.cnt n f = LP.cnt n g := LP.cnt_congr fun i hi => h i (by omega)
      rw [this]
      split <;> split <;> omega
    · rw [h n e]
      have := cnt_put n h
      omega
theorem fac_mono : ∀ {a b : Nat}, a ≤ b → LP.fac a ≤ LP.fac b := by
  intro a b h
  induction b with
  | zero =>
    obtain rfl : a = 0 := by omega
    exact Nat.le_refl _
  | succ b ih =>
    by_cases e : a = b + 1
    · rw [e]; exact Nat.le_refl _
    · have := ih (by omega)
      show _ ≤ (b + 1) * LP.fac b
      have : LP.fac b ≤ (b + 1) * LP.fac b := Nat.le_mul_of_pos_left _ (by omega)
      omega
theorem mk_cols (t : TabB P Ss β) : ∀ i, i < Ss.length → (decide (β i < P) = true ∧ ∀ x, x < Ss.length → LP.acol P Ss (β i) x = 0 ∨ LP.acol P Ss (β i) x = 1) ∨ (decide (β i < P) = false ∧ ∃ k, ∀ x, x < Ss.length → LP.acol P Ss (β i) x = LP.un k x) := by
  intro i hi
  by_cases h : β i < P
  · exact .inl ⟨decide_eq_true h, fun x _ => LP.acol_01 _ _⟩
  · refine .inr ⟨decide_eq_false h, β i - P, fun x hx => ?_⟩
    have hb := t.bas i hi
    have e : β i = P + (β i - P) := by omega
    rw [← LP.acol_un (P := P) (Ss := Ss) (k := β i - P) (by omega), ← e]
theorem few_cols (t : TabB P Ss β) : LP.cnt Ss.length (fun i => decide (β i < P)) ≤ P := cnt_le (g := β) (fun i j hi hj e => t.inj hi hj e) fun i _ h => of_decide_eq_true h
theorem dB_small (t : TabB P Ss β) (hp : P ≤ 10) : (DD P Ss β).natAbs ≤ 3628800 := by
  have h := LP.det_small (f := fun i => LP.acol P Ss (β i)) (mk_cols t)
  have h2 := fac_mono (Nat.le_trans (few_cols t) hp)
  exact Nat.le_trans h h2
theorem Tk_small (t : TabB P Ss β) (hp : P ≤ 10) {k j : Nat} : (TT P Ss β k j).natAbs ≤ 39916800 := by
  have h := LP.det_small (M := Ss.length) (f := LP.put (fun i => LP.acol P Ss (β i)) k (LP.acol P Ss j)) (mk := fun i => if i = k then true else decide (β i < P)) (fun i hi => by
    rw [LP.put_at]
    by_cases e : i = k
    · rw [if_pos e, if_pos e]
      exact .inl ⟨rfl, fun x _ => LP.acol_01 _ _⟩
    · rw [if_neg e, if_neg e]
      exact mk_cols t i hi)
  have h1 := cnt_put (f := fun i => if i = k then true else decide (β i < P)) (g := fun i => decide (β i < P)) (k := k) Ss.length fun i hi => if_neg hi
  have h2 := few_cols t
  have h3 := fac_mono (show LP.cnt Ss.length (fun i => if i = k then true else decide (β i < P)) ≤ 11 by omega)
  exact Nat.le_trans h h3
theorem sm_bound {n : Nat} {f : Nat → Int} {b : Nat} (h : ∀ i, i < n → (f i).natAbs ≤ b) : (LP.sm n f).natAbs ≤ n * b := by
  induction n with
  | zero => simp [LP.sm]
  | succ n ih =>
    show (LP.sm n f + f n).natAbs ≤ _
    have h1 := ih fun i hi => h i (by omega)
    have h2 := h n (by omega)
    have h3 := Int.natAbs_add_le (LP.sm n f) (f n)
    rw [Nat.add_mul, Nat.one_mul]
    omega
theorem cw_small (hw : ∀ w ∈ ws, 0 ≤ w ∧ w ≤ 99) (j : Nat) : 0 ≤ LP.cwant P ws j ∧ LP.cwant P ws j ≤ 99 := by
  unfold LP.cwant
  split
  · rw [List.getD_eq_getElem?_getD]
    cases e : ws[j]? with
    | none => exact ⟨by decide, by decide⟩
    | some w => exact hw w (List.mem_of_getElem? e)
  · exact ⟨by decide, by decide⟩
theorem bl_small (t : TabB P Ss β) (hp : P ≤ 10) (hm : Ss.length ≤ 1024) (hw : ∀ w ∈ ws, 0 ≤ w ∧ w ≤ 99) {j : Nat} : (BB P Ss ws β j).natAbs < 2 ^ 50 := by
  unfold BB LP.bl
  have h1 := sm_bound (n := Ss.length) (f := fun k => LP.cwant P ws (β k) * LP.Tk Ss.length (LP.acol P Ss) β k j) (b := 99 * 39916800) fun i _ => by
    rw [Int.natAbs_mul]
    have := cw_small (P := P) hw (β i)
    exact Nat.mul_le_mul (by omega) (Tk_small t hp)
  have h2 := dB_small t hp
  have h3 := cw_small (P := P) hw j
  have h4 : (LP.dB Ss.length (LP.acol P Ss) β * LP.cwant P ws j).natAbs ≤ 3628800 * 99 := by
    rw [Int.natAbs_mul]
    exact Nat.mul_le_mul h2 (by omega)
  have h5 : Ss.length * (99 * 39916800) ≤ 1024 * (99 * 39916800) := Nat.mul_le_mul_right _ hm
  omega
theorem rowsOkB (t : TabB P Ss β) (hp : P ≤ 10) : RowsOk P Ss.length (rowsB P Ss β) (wkB Ss β) where
  len := by unfold rowsB; simp
  wl := by unfold wkB; simp
  row := fun k hk => by unfold rowsB; rw [getD_rangeMap hk]; unfold rowB; simp
  small := fun k j => by
    by_cases hk : k < Ss.length
    · by_cases hj : j < P + Ss.length + 1
      · rw [nAtB hk hj]
        have := Tk_small t hp (k := k) (j := j)
        exact Nat.lt_of_le_of_lt this (by decide)
      · unfold nAt rowsB
        rw [getD_rangeMap hk]
        unfold rowB
        rw [List.getD_eq_getElem?_getD, List.getElem?_eq_none (by simp; omega)]
        decide
    · unfold nAt rowsB
      rw [getD_out (l := (List.range Ss.length).map (rowB P Ss β)) (by simp; omega), show ([] : List Int).getD j 0 = 0 by simp]
      decide
theorem lvB : ∀ {q k : Nat}, q < P + Ss.length → k ≤ Ss.length → lvG (rowsB P Ss β) (wkB Ss β) (P + Ss.length) q k = LP.lvS Ss.length (P + Ss.length) (LP.acol P Ss) β q k
  | q, 0, _, _ => rfl
  | q, k + 1, hq, hk => by
    have ih := lvB (k := k) hq (by omega)
    unfold lvG LP.lvS
    rw [ih, nAtB (by omega) (by omega)]
    have e : moG (rowsB P Ss β) (wkB Ss β) (P + Ss.length) q k (LP.lvS Ss.length (P + Ss.length) (LP.acol P Ss) β q k) = LP.mo Ss.length (P + Ss.length) (LP.acol P Ss) β q k (LP.lvS Ss.length (P + Ss.length) (LP.acol P Ss) β q k) := by
      cases h : LP.lvS Ss.length (P + Ss.length) (LP.acol P Ss) β q k with
      | none => rfl
      | some f =>
        have hf : f < k := (LP.lvS_some k f h).1
        show bmore _ _ _ _ _ _ = LP.moreB _ _ _ _ _ _ _
        unfold bmore LP.moreB wkB
        rw [nAtB (by omega) (by omega), nAtB (by omega) (by omega), nAtB (by omega) (by omega), nAtB (by omega) (by omega), getD_rangeMap (by omega), getD_rangeMap (by omega)]
        simp only [Int.ofNat_lt]
    rw [e]
end
section
variable {P : Nat} {Ss : List (List Int)} {ws : List Int} {β : Nat → Nat}
theorem rowB_mem (t : TabB P Ss β) (hp : P ≤ 10) {k : Nat} : ∀ z ∈ rowB P Ss β k, z.natAbs < 2 ^ 1000 := fun z hz => by
  obtain ⟨j, _, rfl⟩ := List.mem_map.mp hz
  exact Nat.lt_of_le_of_lt (Tk_small t hp) (by decide)
theorem belB_mem (t : TabB P Ss β) (hp : P ≤ 10) (hm : Ss.length ≤ 1024) (hw : ∀ w ∈ ws, 0 ≤ w ∧ w ≤ 99) : ∀ z ∈ belB P Ss ws β, z.natAbs < 2 ^ 1000 := fun z hz => by
  obtain ⟨j, _, rfl⟩ := List.mem_map.mp hz
  exact Nat.lt_trans (bl_small t hp hm hw) (by decide)
theorem okD_B (t : TabB P Ss β) (hp : P ≤ 10) : okD (DD P Ss β) := okD_of 30 t.dpos (Nat.lt_of_le_of_lt (dB_small t hp) (by decide))
theorem zip_row {n : Nat} {f g h : Nat → Int} {a b d : Int} (e : ∀ j, j < n → (f j * b - a * g j) / d = h j) : ((((List.range n).map f).zip ((List.range n).map g)).map fun p => (p.1 * b - a * p.2) / d) = (List.range n).map h := by
  rw [List.zip_map', List.map_map]
  exact List.map_congr_left fun j hj => e j (List.mem_range.mp hj)
theorem wk_nx {r q : Nat} : (wkB Ss β).set r (q : Int) = wkB Ss (LP.nx β r q) := by
  unfold wkB
  rw [set_rangeMap]
  refine List.map_congr_left fun k _ => ?_
  unfold LP.nx
  split <;> rfl
theorem turn_ok (t : TabB P Ss β) (hp : P ≤ 10) (hm : Ss.length ≤ 1024) (hw : ∀ w ∈ ws, 0 ≤ w ∧ w ≤ 99) {r q : Nat} (hr : r < Ss.length) (hq : q < P + Ss.length) (hpos : 0 < TT P Ss β r q) {X : XF} {Q : R → S → Prop}
    (h : Q (.d .none) [obB P Ss ws (LP.nx β r q), .d (.int r), .d (.int q)]) : m_Rows_turn [obB P Ss ws β, .d (.int r), .d (.int q)] X Q := by
  unfold m_Rows_turn b_Rows_turn
  refine st_sem rfl ?_
  have ro := rowsOkB t hp
  have hl := ro.len
  have hwl := ro.wl
  have okd := okD_B t hp
  have rr : (rowsB P Ss β).getD r [] = rowB P Ss β r := getD_rangeMap hr
  have brq : (rowB P Ss β r)[q]? = some (TT P Ss β r q) := rowB_get (by omega)
  have d0 : DD P Ss β ≠ 0 := Int.ne_of_gt t.dpos
  -- the rows on the way
  let mid : Nat → List (List Int) := fun i => (List.range Ss.length).map fun k => if k < i ∧ k ≠ r then rowB P Ss (LP.nx β r q) k else rowB P Ss β k
  have mid0 : mid 0 = rowsB P Ss β := List.map_congr_left fun k _ => if_neg (by omega)
  have midE : mid Ss.length = rowsB P Ss (LP.nx β r q) := List.map_congr_left fun k hk => by
    have hk := List.mem_range.mp hk
    by_cases e : k = r
    · rw [if_neg (by omega), e]
      exact List.map_congr_left fun j _ => (LP.piv_row).symm
    · rw [if_pos ⟨hk, e⟩]
  have midL : ∀ i, (mid i).length = Ss.length := fun i => by simp [mid]
  array_get_dec
  refine st_fldIx (rowAt (by omega)) ?_
  rw [rr]
  array_get_dec
  refine ⟨⟨by omega, by omega⟩, ?_⟩
  array_get_dec
  refine loop_range1 (fun i s => 0 ≤ i ∧ i ≤ (Ss.length : Int) ∧ s = [obF P Ss.length (DD P Ss β) (mid i.toNat) (belB P Ss ws β) (wkB Ss β), .d (.int r), .d (.int q), .d (rowD (rowB P Ss β r)), .no]) (fun s hI => ?_) ?_ ⟨by omega, by omega, by rw [show mid (0 : Int).toNat = rowsB P Ss β from mid0]⟩
  · obtain ⟨_, _, rfl⟩ := hI
    rw [show (max 0 (Ss.length : Int)).toNat = Ss.length by omega, midE]
    array_get_dec
    refine cleared_ok (a := BB P Ss ws β q) (b := TT P Ss β r q) (belB_get (by omega)) brq (by unfold belB; simp; omega) okd (belB_mem t hp hm hw) (rowB_mem t hp) fun fin => ?_
    rw [show (((belB P Ss ws β).zip (rowB P Ss β r)).map fun p => (p.1 * TT P Ss β r q - BB P Ss ws β q * p.2) / DD P Ss β) = belB P Ss ws (LP.nx β r q) from zip_row fun j hj => by
      have e := t.pivbl (c := LP.cwant P ws) (q := q) (r := r) (j := j) hr (by omega)
      rw [Int.mul_comm (LP.bl _ _ _ _ _), ← e, Int.mul_ediv_cancel_left _ d0]]
    array_get_dec
    refine st_flat_l (flatL_map (fun _ => rfl) _) ?_
    array_get_dec
    refine st_ix_l (x := .int (TT P Ss β r q)) (atI_map brq) ?_
    array_get_dec
    refine st_fiK (by omega) (by rw [List.length_map, hwl]; omega) ?_
    array_get_dec
    rw [← List.map_set, Int.toNat_natCast, wk_nx]
    rw [show TT P Ss β r q = DD P Ss (LP.nx β r q) from (LP.piv_d).symm]
    exact h
  · rintro i s k h0 hlt ⟨_, _, rfl⟩ hk
    obtain ⟨j, rfl⟩ := Int.eq_ofNat_of_zero_le h0
    have hj : j < Ss.length := by omega
    rw [show ((j : Nat) : Int).toNat = j from rfl]
    array_get_dec
    refine st_ite (fun c => ?_) (fun c => ?_)
    · have c : ¬ (j : Int) = r := by
        rw [Bool.not_eq_true'] at c
        exact of_decide_eq_false c
      have c : j ≠ r := fun e => c (by rw [e])
      have mj : (mid j).getD j [] = rowB P Ss β j := (getD_rangeMap hj).trans (if_neg (by omega))
      array_get_dec
      refine st_ix_l (rowAt (by rw [midL]; exact hj)) ?_
      rw [mj]
      array_get_dec
      refine cleared_ok (a := TT P Ss β j q) (b := TT P Ss β r q) (rowB_get (by omega)) brq (by unfold rowB; simp; omega) okd (rowB_mem t hp) (rowB_mem t hp) fun fin => ?_
      rw [show (((rowB P Ss β j).zip (rowB P Ss β r)).map fun p => (p.1 * TT P Ss β r q - TT P Ss β j q * p.2) / DD P Ss β) = rowB P Ss (LP.nx β r q) j from zip_row fun x hx => by
        have e := t.piv (r := r) (q := q) (i := j) (j := x) hr hj c (by omega)
        rw [Int.mul_comm (LP.Tk _ _ _ _ x), ← e, Int.mul_ediv_cancel_left _ d0]]
      array_get_dec
      refine st_flat_l (flatL_map (fun _ => rfl) _) ?_
      array_get_dec
      refine st_fiK (by omega) (by rw [List.length_map, midL]; omega) ?_
      refine hk _ ⟨by omega, by omega, ?_⟩
      rw [← List.map_set (f := rowD), show ((j : Int) + 1).toNat = j + 1 by omega, Int.toNat_natCast]
      have e : (mid j).set j (rowB P Ss (LP.nx β r q) j) = mid (j + 1) := by
        show ((List.range Ss.length).map _).set j _ = _
        rw [set_rangeMap]
        refine List.map_congr_left fun x _ => ?_
        by_cases e : x = j
        · rw [if_pos e, if_pos ⟨by omega, by omega⟩, e]
        · rw [if_neg e]
          by_cases e2 : x < j ∧ x ≠ r
          · rw [if_pos e2, if_pos ⟨by omega, e2.2⟩]
          · rw [if_neg e2, if_neg (by omega)]
      rw [e]
      rfl
    · have c : (j : Int) = r := by
        rw [Bool.not_eq_false'] at c
        exact of_decide_eq_true c
      have c : j = r := by omega
      array_get_dec
      refine hk _ ⟨by omega, by omega, ?_⟩
      rw [show ((j : Int) + 1).toNat = j + 1 by omega]
      have e : mid j = mid (j + 1) := List.map_congr_left fun x _ => by
        by_cases e2 : x < j ∧ x ≠ r
        · rw [if_pos e2, if_pos ⟨by omega, e2.2⟩]
        · rw [if_neg e2, if_neg (by omega)]
      rw [e]
      rfl
end
section
variable {P : Nat} {Ss : List (List Int)} {ws : List Int} {β : Nat → Nat}
abbrev EntB (P : Nat) (Ss : List (List Int)) (ws : List Int) (β : Nat → Nat) (q : Nat) : Prop := LP.Ent Ss.length (P + Ss.length) (LP.acol P Ss) (LP.cwant P ws) β q
abbrev LeftB (P : Nat) (Ss : List (List Int)) (ws : List Int) (β : Nat → Nat) (n : Nat) : Prop := LP.Left Ss.length (P + Ss.length) (LP.acol P Ss) (LP.cwant P ws) β n
theorem belB_getD {j : Nat} (h : j < P + Ss.length + 1) : (belB P Ss ws β).getD j 0 = BB P Ss ws β j := getD_rangeMap h
theorem entB_ok (hm : P + Ss.length < 2000) {X : XF} {Q : R → S → Prop}
    (h1 : ∀ (q : Nat) fin, EntB P Ss ws β q → Q (.d (.int q)) fin) (h2 : ∀ fin, (∀ j, j < P + Ss.length → 0 ≤ BB P Ss ws β j) → Q (.d .none) fin) : m_Rows_entering [.d (zB P Ss ws β)] X Q := by
  refine entering_ok (by unfold belB; simp) hm (fun q fin hq hn hf => ?_) (fun fin hf => ?_)
  · rw [belB_getD (by omega)] at hn
    refine h1 q fin ⟨hq, hn, fun j hj => ?_⟩
    have := hf j hj
    rw [belB_getD (by omega)] at this
    exact this
  · refine h2 fin fun j hj => ?_
    have := hf j hj
    rw [belB_getD (by omega)] at this
    exact this
theorem finish_ok (t : TabB P Ss β) (hp : P ≤ 10) (hm : Ss.length ≤ 1024) (hw : ∀ w ∈ ws, 0 ≤ w ∧ w ≤ 99) (hC : ∀ j, j < P + Ss.length → ∃ x, x < Ss.length ∧ 0 < LP.acol P Ss j x) {X : XF} {Q : R → S → Prop}
    (h : ∀ γ, TabB P Ss γ → (∀ j, j < P + Ss.length → 0 ≤ BB P Ss ws γ j) → Q (.d .none) [obB P Ss ws γ]) : m_Rows_finish [obB P Ss ws β] X Q := by
  unfold m_Rows_finish b_Rows_finish
  refine st_sem rfl ?_
  obtain ⟨n, hleft⟩ := t.ends (c := LP.cwant P ws) LP.acol_nn hC
  let I : Nat → S → Prop := fun n s => ∃ γ col, s = [obB P Ss ws γ, .d (optD col)] ∧ TabB P Ss γ ∧ LeftB P Ss ws γ n ∧ (match col with | none => ∀ j, j < P + Ss.length → 0 ≤ BB P Ss ws γ j | some q => EntB P Ss ws γ q)
  refine st_join (I n) ?_ (fun k hk => ?_)
  · intro s hs
    array_get_dec
    refine loop_while I ?_ n hs
    rintro n s k ⟨γ, col, rfl, tg, lf, hcol⟩ hk
    cases col with
    | none =>
      dsimp only [optD]
      array_get_dec
      exact h γ tg hcol
    | some q =>
      dsimp only [optD]
      have hq := hcol.lt
      array_get_dec
      refine st_iteT rfl ?_
      cases lf with
      | done hd => exact absurd (hd q hq) (by have := hcol.neg; omega)
      | step e hr lf =>
        rename_i q' r n
        have e1 := LP.ent_find hcol
        rw [LP.ent_find e] at e1
        cases e1
        have lr := LP.lvS_lev hr
        have lv : lvG (rowsB P Ss γ) (wkB Ss γ) (P + Ss.length) q Ss.length = some r := by rw [lvB hq (Nat.le_refl _)]; exact hr
        have tn := tg.next hq lr
        array_get_dec
        refine leaving_ok (rowsOkB tg hp) hq fun fin => ?_
        rw [lv]
        dsimp only [optD]
        array_get_dec
        refine turn_ok tg hp hm hw lr.lt hq lr.pos ?_
        array_get_dec
        refine entB_ok (by omega) (fun q2 fin he => ?_) (fun fin he => ?_)
        · array_get_dec
          exact hk n _ (by omega) ⟨_, some q2, rfl, tn, lf, he⟩
        · array_get_dec
          refine st_flat_d rfl ?_
          array_get_dec
          exact hk n _ (by omega) ⟨_, none, rfl, tn, lf, he⟩
  · array_get_dec
    refine entB_ok (by omega) (fun q2 fin he => ?_) (fun fin he => ?_)
    · array_get_dec
      exact hk _ ⟨_, some q2, rfl, t, hleft, he⟩
    · array_get_dec
      refine st_flat_d rfl ?_
      array_get_dec
      exact hk _ ⟨_, none, rfl, t, hleft, he⟩
end
section
variable {Ss : List (List Int)} {ws : List Int}
theorem range_split (P M : Nat) : List.range (P + M + 1) = List.range P ++ (List.range M).map (P + ·) ++ [P + M] := by
  rw [List.range_succ, List.range_add]
theorem row0 {P k : Nat} (hk : k < Ss.length) : rowB P Ss (LP.b0 P) k = ((List.range P).map fun (j : Nat) => if (j : Int) ∈ Ss.getD k [] then (1 : Int) else 0) ++ ((List.range Ss.length).map fun j => if j = k then (1 : Int) else 0) ++ [1] := by
  unfold rowB
  rw [range_split, List.map_append, List.map_append, List.map_map]
  congr 1
  · congr 1
    · refine List.map_congr_left fun j hj => ?_
      have hj := List.mem_range.mp hj
      show LP.Tk _ _ _ _ _ = _
      rw [LP.T0 hk]
      unfold LP.acol
      rw [if_pos hj]
    · refine List.map_congr_left fun j hj => ?_
      have hj := List.mem_range.mp hj
      show LP.Tk _ _ _ _ (P + j) = _
      rw [LP.T0 hk, LP.acol_un hj]
      unfold LP.un
      by_cases e : j = k
      · rw [if_pos e, if_pos e.symm]
      · rw [if_neg e, if_neg (Ne.symm e)]
  · show [LP.Tk _ _ _ _ (P + Ss.length)] = _
    rw [LP.T0 hk, LP.acol_one]
theorem bel0 {P : Nat} (hP : ws.length = P) : belB P Ss ws (LP.b0 P) = (ws.map fun w => -w) ++ List.replicate (Ss.length + 1) 0 := by
  unfold belB
  rw [range_split, List.map_append, List.map_append, List.map_map, List.append_assoc]
  congr 1
  · apply List.ext_getElem
    · simp [hP]
    · intro i h1 h2
      rw [List.length_map, List.length_range] at h1
      rw [List.getElem_map, List.getElem_range, List.getElem_map]
      show LP.bl _ _ _ _ _ = _
      rw [LP.bl0]
      unfold LP.cwant
      rw [if_pos h1, List.getD_eq_getElem?_getD, List.getElem?_eq_getElem (by omega)]; rfl
  · have z : ∀ j, ¬ j < P → BB P Ss ws (LP.b0 P) j = 0 := fun j hj => by
      show LP.bl _ _ _ _ _ = _
      rw [LP.bl0]
      unfold LP.cwant
      rw [if_neg hj]; rfl
    rw [List.replicate_succ']
    congr 1
    · apply List.ext_getElem
      · simp
      · intro i h1 h2
        rw [List.getElem_map, List.getElem_range, List.getElem_replicate]
        exact z (P + i) (by omega)
    · exact congrArg (fun q => [q]) (z (P + Ss.length) (by omega))
theorem wk0 {P : Nat} : wkB Ss (LP.b0 P) = (rangeI Ss.length).map fun z => (P : Int) + z := by
  unfold wkB rangeI
  rw [List.map_map]
  refine List.map_congr_left fun k _ => ?_
  show ((P + k : Nat) : Int) = (P : Int) + (k : Nat)
  omega
theorem init_ok (hm : Ss.length ≤ 1024) (hs : ∀ s ∈ Ss, s.length ≤ 10) (hp : ws.length ≤ 10) {X : XF} {Q : R → S → Prop} (h : ∀ v1 v2, Q (.d .none) [obB ws.length Ss ws (LP.b0 ws.length), v1, v2]) :
    m_Rows_init [.ob "Rows" [], .d (.list (Ss.map tupI)), .d (.tuple (ws.map .int))] X Q := by
  unfold m_Rows_init b_Rows_init
  refine st_sem rfl ?_
  generalize hP : ws.length = P at h hp
  array_get_dec
  rw [List.length_map, List.length_map, hP]
  rw [show Ss.map tupI = (Ss.take Ss.length).map tupI by rw [List.take_length], enum_map (f := tupI) (ks := Ss) (i := Ss.length) (Nat.le_refl _), List.take_length]
  refine loop_nat (fun k s => s = [.ob "Rows" [("places", .d (.int P)), ("many", .d (.int Ss.length)), ("common", .d (.int 1)), ("rows", .l (((List.range k).map (rowB P Ss (LP.b0 P))).map rowD))], .d (.list (Ss.map tupI)), .d (.tuple (ws.map .int)), .no, .no, .no, .no, .no, .no]) (fun s e => ?_) ?_ rfl
  · subst e
    array_get_dec
    refine ⟨by rw [List.length_map]; show _ ≤ 16777216; omega, ?_⟩
    array_get_dec
    refine comp_list PyData.int (fun z => .int (-z)) _ (fun z hz kT hkT => ?_) ?_
    · array_get_dec
      exact hkT
    · array_get_dec
      refine st_mul_l (by omega) (by omega) (by show 1 * _ ≤ 16777216; omega) ?_
      array_get_dec
      refine st_add_l (by rw [List.length_map]; simp; show _ ≤ 16777216; omega) ?_
      array_get_dec
      refine ⟨⟨by omega, by omega⟩, ?_⟩
      array_get_dec
      rw [show rangeD 0 ((Ss.length : Nat) : Int).toNat = (rangeI Ss.length).map PyData.int from rangeD_map]
      refine ⟨by rw [List.length_map, rangeI_len]; show _ ≤ 16777216; omega, ?_⟩
      array_get_dec
      refine comp_list PyData.int (fun z => .int ((P : Int) + z)) _ (fun z hz kT hkT => ?_) ?_
      · array_get_dec
        exact hkT
      · array_get_dec
        have e1 : (ws.map fun z => PyData.int (-z)) ++ (List.replicate ((Ss.length : Int) + 1).toNat [PyData.int 0]).flatten = (belB P Ss ws (LP.b0 P)).map .int := by
          rw [bel0 hP, List.map_append, List.map_map, List.map_replicate, show ((Ss.length : Int) + 1).toNat = Ss.length + 1 by omega]
          congr 1
          generalize Ss.length + 1 = m
          induction m with
          | zero => rfl
          | succ m ih => rw [List.replicate_succ, List.replicate_succ, List.flatten_cons, ih]; rfl
        have e2 : ((rangeI Ss.length).map fun z => PyData.int ((P : Int) + z)) = (wkB Ss (LP.b0 P)).map .int := by rw [wk0, List.map_map]; rfl
        rw [e1, e2, show (1 : Int) = DD P Ss (LP.b0 P) from LP.d0.symm]
        exact h _ _
  · rintro k s kk hk rfl hkk
    have hS : (Ss.getD k []).length ≤ 10 := by
      rw [List.getD_eq_getElem?_getD, List.getElem?_eq_getElem hk]
      exact hs _ (List.getElem_mem hk)
    rw [show Ss.getD k default = Ss.getD k [] from rfl]
    generalize hSk : Ss.getD k [] = Sk at hS
    rw [show tupI Sk = PyData.tuple (Sk.map .int) from rfl]
    array_get_dec
    refine ⟨⟨by omega, by omega⟩, ?_⟩
    array_get_dec
    rw [show rangeD 0 ((P : Nat) : Int).toNat = (rangeI P).map PyData.int from rangeD_map]
    refine ⟨by rw [List.length_map, rangeI_len]; show _ ≤ 16777216; omega, ?_⟩
    array_get_dec
    refine comp_list PyData.int (fun z => .int (if decide (z ∈ Sk) then 1 else 0)) _ (fun z hz kT hkT => ?_) ?_
    · array_get_dec
      exact hkT
    · array_get_dec
      refine ⟨⟨by omega, by omega⟩, ?_⟩
      array_get_dec
      rw [show rangeD 0 ((Ss.length : Nat) : Int).toNat = (rangeI Ss.length).map PyData.int from rangeD_map]
      refine ⟨by rw [List.length_map, rangeI_len]; show _ ≤ 16777216; omega, ?_⟩
      array_get_dec
      refine comp_list PyData.int (fun z => .int (if decide (z = (k : Int)) then 1 else 0)) _ (fun z hz kT hkT => ?_) ?_
      · array_get_dec
        exact hkT
      · array_get_dec
        refine st_add_l (by rw [List.length_map, List.length_map, rangeI_len, rangeI_len]; show _ ≤ 16777216; omega) ?_
        array_get_dec
        refine st_add_l (by rw [List.length_append, List.length_map, List.length_map, rangeI_len, rangeI_len]; show _ + 1 ≤ 16777216; omega) ?_
        array_get_dec
        refine st_lmK_app (by simp; show _ < 16777216; omega) ?_
        array_get_dec
        refine hkk _ ?_
        have e : ((((rangeI P).map fun z => PyData.int (if decide (z ∈ Sk) then 1 else 0)) ++ ((rangeI Ss.length).map fun z => PyData.int (if decide (z = (k : Int)) then 1 else 0))) ++ [PyData.int 1]) = (rowB P Ss (LP.b0 P) k).map .int := by
          rw [row0 hk, hSk, List.map_append, List.map_append]
          congr 1
          congr 1
          · unfold rangeI
            rw [List.map_map, List.map_map]
            refine List.map_congr_left fun j _ => ?_
            simp
          · unfold rangeI
            rw [List.map_map, List.map_map]
            refine List.map_congr_left fun j _ => ?_
            simp [Int.ofNat_inj]
        rw [e]
        have e3 : ((List.range k).map (rowB P Ss (LP.b0 P))).map rowD ++ [PyData.list ((rowB P Ss (LP.b0 P) k).map .int)] = ((List.range (k + 1)).map (rowB P Ss (LP.b0 P))).map rowD := by
          rw [List.range_succ, List.map_append, List.map_append]; rfl
        rw [e3]
        rfl
end
section
variable {P : Nat} {Ss : List (List Int)} {ws : List Int} {β : Nat → Nat}
theorem low0 {d : Int} (hd : 0 < d) : low 0 d = (0, 1) := by
  unfold low
  rw [Int.gcd_zero_left, Int.zero_ediv]
  have e : ((d.natAbs : Nat) : Int) = d := by omega
  rw [e, Int.ediv_self (by omega)]
theorem lowest_low {a b : Int} (hb : 0 < b) (hs : b.natAbs < 2 ^ 8999) {X : XF} {Q : R → S → Prop} (h : ∀ fin, Q (.d (pairD (low a b))) fin) : m_lowest [.d (.int a), .d (.int b)] X Q := lowest_ok (p := 0) hb hs h
theorem share_ok (t : TabB P Ss β) (hp : P ≤ 10) {x : Nat} (hx : x < Ss.length) {X : XF} {Q : R → S → Prop} (h : ∀ fin, Q (.d (pairD (low (BB P Ss ws β (P + x)) (DD P Ss β)))) fin) : m_Rows_share [.d (zB P Ss ws β), .d (.int x)] X Q := by
  unfold m_Rows_share b_Rows_share
  refine st_sem rfl ?_
  have hd := dB_small t hp
  array_get_dec
  rw [show ((P : Int) + (x : Int)) = ((P + x : Nat) : Int) by omega]
  refine st_ix_l (x := .int (BB P Ss ws β (P + x))) (atI_map (belB_get (by omega))) ?_
  array_get_dec
  refine lowest_low t.dpos (Nat.lt_of_le_of_lt hd (by
    refine Nat.lt_of_lt_of_le (show 3628800 < 2 ^ 30 by decide) (Nat.pow_le_pow_right (by decide) (by decide)))) fun fin => ?_
  array_get_dec
  exact h _
/-- the prices as they come -/
def prF (N : Nat) (Ss : List (List Int)) (P : Nat) (β : Nat → Nat) : Nat → Nat → Int × Int
  | 0, _ => (0, 1)
  | k + 1, p => if p = β k then low (TT P Ss β k N) (DD P Ss β) else prF N Ss P β k p
theorem prF_hit (t : TabB P Ss β) {k : Nat} (hk : k < Ss.length) : ∀ {n : Nat}, k < n → n ≤ Ss.length → prF (P + Ss.length) Ss P β n (β k) = low (TT P Ss β k (P + Ss.length)) (DD P Ss β)
  | 0, h, _ => by omega
  | n + 1, h, hn => by
    show (if β k = β n then _ else _) = _
    by_cases e : β k = β n
    · have := t.inj hk (by omega) e
      subst this
      rw [if_pos rfl]
    · have : k ≠ n := fun z => e (by rw [z])
      rw [if_neg e, prF_hit t hk (by omega) (by omega)]
theorem prF_miss {p : Nat} : ∀ {n : Nat}, (∀ k, k < n → p ≠ β k) → prF (P + Ss.length) Ss P β n p = (0, 1)
  | 0, _ => rfl
  | n + 1, h => by
    show (if p = β n then _ else _) = _
    rw [if_neg (h n (by omega)), prF_miss fun k hk => h k (by omega)]
/-- the price of a place -/
def prB (P : Nat) (Ss : List (List Int)) (β : Nat → Nat) (p : Nat) : Int × Int := low (LP.xv Ss.length (P + Ss.length) (LP.acol P Ss) β p) (DD P Ss β)
theorem prF_end (t : TabB P Ss β) (p : Nat) : prF (P + Ss.length) Ss P β Ss.length p = prB P Ss β p := by
  unfold prB
  by_cases h : ∃ k, k < Ss.length ∧ β k = p
  · obtain ⟨k, hk, rfl⟩ := h
    rw [prF_hit t hk hk (Nat.le_refl _), t.xv_bas hk]
  · have h2 : ∀ k, k < Ss.length → p ≠ β k := fun k hk e => h ⟨k, hk, e.symm⟩
    rw [prF_miss h2, LP.xv_non fun k hk e => h ⟨k, hk, e⟩, low0 t.dpos]
theorem prices_ok (t : TabB P Ss β) (hp : P ≤ 10) (hm : Ss.length ≤ 1024) {X : XF} {Q : R → S → Prop} (h : ∀ fin, Q (.own (.l (((List.range P).map (prB P Ss β)).map pairD))) fin) : m_Rows_prices [.d (zB P Ss ws β)] X Q := by
  unfold m_Rows_prices b_Rows_prices
  refine st_sem rfl ?_
  have ro := rowsOkB t hp
  have hd := dB_small t hp
  array_get_dec
  refine ⟨⟨by omega, by omega⟩, ?_⟩
  array_get_dec
  rw [show rangeD 0 ((P : Nat) : Int).toNat = (rangeI P).map PyData.int from rangeD_map]
  refine ⟨by rw [List.length_map, rangeI_len]; show _ ≤ 16777216; omega, ?_⟩
  array_get_dec
  refine comp_list PyData.int (fun z => pairD (0, 1)) _ (fun z hz kT hkT => ?_) ?_
  · array_get_dec
    exact hkT
  array_get_dec
  have e0 : ((rangeI P).map fun _ => pairD (0, 1)) = ((List.range P).map (prF (P + Ss.length) Ss P β 0)).map pairD := by
    unfold rangeI
    rw [List.map_map, List.map_map]; rfl
  rw [e0]
  rw [show enumD ((wkB Ss β).map PyData.int) = (List.range Ss.length).map fun (k : Nat) => .tuple [.int k, .int (β k)] by
    rw [enum_ints', ro.wl]
    refine List.map_congr_left fun k hk => ?_
    have hk := List.mem_range.mp hk
    have : atZ (wkB Ss β) (k : Int) = (β k : Int) := getD_rangeMap hk
    rw [this]]
  refine loop_nat (fun k s => s = [.d (zB P Ss ws β), .l (((List.range P).map (prF (P + Ss.length) Ss P β k)).map pairD), .no, .no, .no]) (fun s e => ?_) ?_ rfl
  · subst e
    array_get_dec
    rw [show (List.range P).map (prF (P + Ss.length) Ss P β Ss.length) = (List.range P).map (prB P Ss β) from List.map_congr_left fun p _ => prF_end t p]
    exact h _
  · rintro k s kk hk rfl hkk
    have lk := ro.row k hk
    have hb := t.bas k hk
    array_get_dec
    refine st_ite (fun c => ?_) (fun c => ?_)
    · have c : β k < P := by have := of_decide_eq_true c; omega
      array_get_dec
      refine st_ix_l (rowAt (by rw [ro.len]; exact hk)) ?_
      array_get_dec
      refine st_ix_l (numLast lk) ?_
      array_get_dec
      rw [show ((rowsB P Ss β).getD k []).getD (P + Ss.length) 0 = TT P Ss β k (P + Ss.length) from nAtB hk (by omega)]
      refine lowest_low t.dpos (Nat.lt_of_le_of_lt hd (by
        refine Nat.lt_of_lt_of_le (show 3628800 < 2 ^ 30 by decide) (Nat.pow_le_pow_right (by decide) (by decide)))) fun fin => ?_
      array_get_dec
      refine ⟨by omega, by rw [List.length_map, List.length_map, List.length_range]; omega, ?_⟩
      array_get_dec
      refine hkk _ ?_
      rw [← List.map_set, Int.toNat_natCast, set_rangeMap]
      rfl
    · have c : ¬ β k < P := by have := of_decide_eq_false c; omega
      array_get_dec
      refine hkk _ ?_
      have e : (List.range P).map (prF (P + Ss.length) Ss P β k) = (List.range P).map (prF (P + Ss.length) Ss P β (k + 1)) := List.map_congr_left fun p hp => by
        have hp := List.mem_range.mp hp
        show _ = if p = β k then _ else _
        rw [if_neg (by omega)]
      rw [e]
      rfl
end
theorem low_scale {a b k : Int} (hb : 0 < b) (hk : 0 < k) : low (a * k) (b * k) = low a b := by
  unfold low
  have hg : 0 < Int.gcd a b := Int.gcd_pos_of_ne_zero_right _ (by omega)
  have e : ((Int.gcd (a * k) (b * k) : Nat) : Int) = (Int.gcd a b : Int) * k := by
    rw [Int.gcd_mul_right, Int.natCast_mul]
    congr 1
    omega
  rw [e, Int.mul_ediv_mul_of_pos_left _ _ hk, Int.mul_ediv_mul_of_pos_left _ _ hk]
theorem low_eq {a b c d : Int} (hb : 0 < b) (hd : 0 < d) (h : a * d = c * b) : low a b = low c d := by
  rw [← low_scale (a := a) hb hd, ← low_scale (a := c) hd hb, h, Int.mul_comm b d]
theorem low_den {a b : Int} (hb : 0 < b) : 0 < (low a b).2 := by
  have hg : 0 < Int.gcd a b := Int.gcd_pos_of_ne_zero_right _ (by omega)
  have hd : ((Int.gcd a b : Nat) : Int) ∣ b := Int.gcd_dvd_right ..
  exact Int.ediv_pos_of_pos_of_dvd hb (by omega) hd
theorem low_num {a b : Int} (ha : 0 ≤ a) : 0 ≤ (low a b).1 := Int.ediv_nonneg ha (by omega)
theorem low_cross {a b : Int} (hb : 0 < b) : (low a b).1 * b = a * (low a b).2 := by
  unfold low
  have hg0 : 0 < Int.gcd a b := Int.gcd_pos_of_ne_zero_right _ (by omega)
  have hg : (0 : Int) < ((Int.gcd a b : Nat) : Int) := by omega
  clear hg0
  obtain ⟨x, hx⟩ : ((Int.gcd a b : Nat) : Int) ∣ a := Int.gcd_dvd_left ..
  obtain ⟨y, hy⟩ : ((Int.gcd a b : Nat) : Int) ∣ b := Int.gcd_dvd_right ..
  generalize ((Int.gcd a b : Nat) : Int) = g at *
  subst hx hy
  rw [Int.mul_ediv_cancel_left _ (by omega), Int.mul_ediv_cancel_left _ (by omega)]
  grind
def pl (f q : Int × Int) : Int × Int := low (f.1 * q.2 + q.1 * f.2) (f.2 * q.2)
theorem low_abs {a b : Int} : (low a b).1.natAbs ≤ a.natAbs ∧ (low a b).2.natAbs ≤ b.natAbs := ⟨Int.natAbs_ediv_le_natAbs _ _, Int.natAbs_ediv_le_natAbs _ _⟩
def Sm (f : Int × Int) : Prop := f.1.natAbs < 2 ^ 4000 ∧ f.2.natAbs < 2 ^ 4000 ∧ 0 < f.2
theorem mulS {a b : Int} (ha : a.natAbs < 2 ^ 4000) (hb : b.natAbs < 2 ^ 4000) : (a * b).natAbs < 2 ^ 8999 := by
  rw [Int.natAbs_mul]
  have := Nat.mul_lt_mul'' ha hb
  rw [← Nat.pow_add] at this
  exact Nat.lt_of_lt_of_le this (Nat.pow_le_pow_right (by decide) (by decide))
theorem plusS_ok {f q : Int × Int} (h1 : Sm f) (h2 : Sm q) {X : XF} {Q : R → S → Prop} (h : ∀ fin, Q (.d (pairD (pl f q))) fin) : m_plus [.d (pairD f), .d (pairD q)] X Q := by
  unfold m_plus b_plus
  refine st_sem rfl ?_
  array_get_dec
  refine st_mul_i (okM_of 4000 4000 h1.1 h2.2.1) ?_
  array_get_dec
  refine st_mul_i (okM_of 4000 4000 h2.1 h1.2.1) ?_
  array_get_dec
  refine st_mul_i (okM_of 4000 4000 h1.2.1 h2.2.1) ?_
  array_get_dec
  refine lowest_low (Int.mul_pos h1.2.2 h2.2.2) (mulS h1.2.1 h2.2.1) fun fin => ?_
  array_get_dec
  exact h _
def sumF (fs : List (Int × Int)) : Int × Int := fs.foldl pl (0, 1)
theorem sumF_snoc {fs : List (Int × Int)} {f : Int × Int} : sumF (fs ++ [f]) = pl (sumF fs) f := by
  unfold sumF
  rw [List.foldl_append]; rfl
theorem sum_of_ok {fs : List (Int × Int)} (h1 : ∀ f ∈ fs, Sm f) (h2 : ∀ i, i ≤ fs.length → Sm (sumF (fs.take i))) {X : XF} {Q : R → S → Prop} (h : ∀ fin, Q (.d (pairD (sumF fs))) fin) : m_sum_of_fractions [.d (.list (fs.map pairD))] X Q := by
  unfold m_sum_of_fractions b_sum_of_fractions
  refine st_sem rfl ?_
  array_get_dec
  refine loop_list pairD (fun l s => ∃ done, fs = done ++ l ∧ s = [.d (.list (fs.map pairD)), .d (pairD (sumF done)), .no]) (fun s hI => ?_) ?_ fs _ ⟨[], rfl, rfl⟩
  · obtain ⟨done, e, rfl⟩ := hI
    rw [List.append_nil] at e
    subst e
    array_get_dec
    exact h _
  · rintro f l s k ⟨done, e, rfl⟩ hk
    have hs : Sm (sumF done) := by
      have := h2 done.length (by rw [e, List.length_append]; omega)
      rw [e, List.take_left] at this
      exact this
    array_get_dec
    refine plusS_ok hs (h1 f (by rw [e]; simp)) fun fin => ?_
    array_get_dec
    exact hk _ ⟨done ++ [f], by rw [e]; simp, by rw [sumF_snoc]; rfl⟩
/-- fractions over one number -/
theorem pl_same {a b d : Int} (hd : 0 < d) : pl (low a d) (low b d) = low (a + b) d := by
  have h1 := low_den (a := a) hd
  have h2 := low_cross (a := a) hd
  have h3 := low_den (a := b) hd
  have h4 := low_cross (a := b) hd
  unfold pl
  generalize low a d = x at *
  generalize low b d = y at *
  refine low_eq (Int.mul_pos h1 h3) hd ?_
  have e : (x.1 * y.2 + y.1 * x.2) * d = (x.1 * d) * y.2 + (y.1 * d) * x.2 := by grind
  rw [e, h2, h4]
  grind
theorem sumF_same {d : Int} (hd : 0 < d) : ∀ as : List Int, sumF (as.map fun a => low a d) = low as.sum d := by
  intro as
  have go : ∀ (as : List Int) (z : Int), (as.map fun a => low a d).foldl pl (low z d) = low (z + as.sum) d := by
    intro as
    induction as with
    | nil => intro z; simp
    | cons a as ih =>
      intro z
      rw [List.map_cons, List.foldl_cons, pl_same hd, ih, List.sum_cons]
      congr 1
      omega
  have := go as 0
  rw [low0 hd] at this
  rw [Int.zero_add] at this
  exact this
theorem low_small {a d : Int} (hd : 0 < d) (ha : a.natAbs < 2 ^ 4000) (h : d.natAbs < 2 ^ 4000) : Sm (low a d) := ⟨Nat.lt_of_le_of_lt low_abs.1 ha, Nat.lt_of_le_of_lt low_abs.2 h, low_den hd⟩
theorem st_ne_pp {p q : Int × Int} {k : R → Prop} (h : k (.d (.bool (!decide (p = q))))) : cNe (pairD p) (pairD q) k := by
  refine st_ne (x := pairD p) (y := pairD q) rfl rfl ?_
  show k (.d (.bool (!PyData.eqv (pairD p) (pairD q))))
  rw [eqv_pair]
  exact h
abbrev entD (e : List Int × (Int × Int)) : D := .tuple [tupI e.1, pairD e.2]
def shB (P : Nat) (Ss : List (List Int)) (ws : List Int) (β : Nat → Nat) (x : Nat) : Int × Int := low (BB P Ss ws β (P + x)) (DD P Ss β)
def layN (P : Nat) (Ss : List (List Int)) (ws : List Int) (β : Nat → Nat) (k : Nat) : List (List Int × (Int × Int)) := ((List.range k).map fun x => (Ss.getD x [], shB P Ss ws β x)).filter fun e => decide (e.2 ≠ (0, 1))
abbrev layB (P : Nat) (Ss : List (List Int)) (ws : List Int) (β : Nat → Nat) : List (List Int × (Int × Int)) := layN P Ss ws β Ss.length
theorem layN_succ {P : Nat} {Ss : List (List Int)} {ws : List Int} {β : Nat → Nat} {k : Nat} : layN P Ss ws β (k + 1) = layN P Ss ws β k ++ if shB P Ss ws β k = (0, 1) then [] else [(Ss.getD k [], shB P Ss ws β k)] := by
  unfold layN
  rw [List.range_succ, List.map_append, List.filter_append]
  congr 1
  show List.filter _ [(Ss.getD k [], shB P Ss ws β k)] = _
  by_cases h : shB P Ss ws β k = (0, 1)
  · rw [if_pos h, List.filter_cons_of_neg (by simp [h])]; rfl
  · rw [if_neg h, List.filter_cons_of_pos (by simp [h])]; rfl
theorem layN_len {P : Nat} {Ss : List (List Int)} {ws : List Int} {β : Nat → Nat} {k : Nat} : (layN P Ss ws β k).length ≤ k := by
  unfold layN
  refine Nat.le_trans (List.length_filter_le _ _) ?_
  simp
/-- the shares' own sum: those that are nought fall away -/
theorem lay_fold {P : Nat} {Ss : List (List Int)} {ws : List Int} {β : Nat → Nat} (t : TabB P Ss β) : ∀ k, ∃ as : List Int, (layN P Ss ws β k).map (·.2) = as.map (fun a => low a (DD P Ss β)) ∧ as.sum = LP.sm k (fun x => BB P Ss ws β (P + x)) ∧ ∀ a ∈ as, ∃ x, a = BB P Ss ws β (P + x)
  | 0 => ⟨[], rfl, rfl, fun a ha => nomatch ha⟩
  | k + 1 => by
    obtain ⟨as, e1, e2, e3⟩ := lay_fold (ws := ws) t k
    rw [layN_succ]
    by_cases h : shB P Ss ws β k = (0, 1)
    · rw [if_pos h, List.append_nil]
      refine ⟨as, e1, ?_, e3⟩
      show _ = LP.sm k _ + BB P Ss ws β (P + k)
      have z : BB P Ss ws β (P + k) = 0 := by
        have hc := low_cross (a := BB P Ss ws β (P + k)) t.dpos
        have : low (BB P Ss ws β (P + k)) (DD P Ss β) = (0, 1) := h
        rw [show LP.dB Ss.length (LP.acol P Ss) β = DD P Ss β from rfl, this] at hc
        omega
      rw [e2, z]
      omega
    · rw [if_neg h, List.map_append, e1]
      refine ⟨as ++ [BB P Ss ws β (P + k)], by rw [List.map_append]; rfl, ?_, fun a ha => ?_⟩
      · rw [List.sum_append, e2]
        show _ + (_ + 0) = LP.sm k _ + BB P Ss ws β (P + k)
        omega
      · rcases List.mem_append.mp ha with ha | ha
        · exact e3 a ha
        · exact ⟨k, List.mem_singleton.mp ha⟩
theorem sum_list_abs {b : Nat} : ∀ as : List Int, (∀ a ∈ as, a.natAbs ≤ b) → as.sum.natAbs ≤ as.length * b
  | [], _ => by simp
  | a :: as, h => by
    have h1 := sum_list_abs as fun z hz => h z (List.mem_cons_of_mem _ hz)
    have h2 := h a List.mem_cons_self
    rw [List.sum_cons, List.length_cons, Nat.add_mul, Nat.one_mul]
    have := Int.natAbs_add_le a as.sum
    omega
theorem shares_in_ok {n : Int} {ts : List (Int × Int)} {ws : List Int} (g : Good n ts) (hl : ws.length = n.toNat) (hw : ∀ w ∈ ws, 0 ≤ w ∧ w ≤ 99) (hc : ∀ j : Nat, j < n.toNat → ∃ x, x < (fulls false n ts).length ∧ (j : Int) ∈ (fulls false n ts).getD x []) {X : XF} {Q : R → S → Prop}
    (h : ∀ γ fin, TabB n.toNat (fulls false n ts) γ → (∀ j, j < n.toNat + (fulls false n ts).length → 0 ≤ BB n.toNat (fulls false n ts) ws γ j) →
      Q (.d (.tuple [pairD (low (BB n.toNat (fulls false n ts) ws γ (n.toNat + (fulls false n ts).length)) (DD n.toNat (fulls false n ts) γ)), .list ((layB n.toNat (fulls false n ts) ws γ).map entD), .list (((List.range n.toNat).map (prB n.toNat (fulls false n ts) γ)).map pairD)])) fin) : m_shares_in [.d (webD n ts), .d (.tuple (ws.map .int))] X Q := by
  unfold m_shares_in b_shares_in
  refine st_sem rfl ?_
  have n10 := g.n10
  have fl := fulls_len (w := false) g
  have fs := fulls_short (w := false) g
  array_get_dec
  refine full_apart_in_ok g fun fin => ?_
  array_get_dec
  generalize hSs : fulls false n ts = Ss at *
  generalize hP : n.toNat = P at *
  have p10 : P ≤ 10 := by omega
  refine init_ok fl fs (by omega) fun v1 v2 => ?_
  rw [hl]
  array_get_dec
  refine finish_ok LP.tab0 p10 fl hw (fun j hj => LP.acol_hit hc hj) fun γ tg hopt => ?_
  array_get_dec
  have small : ∀ j, (BB P Ss ws γ j).natAbs < 2 ^ 50 := fun j => bl_small tg p10 fl hw
  have dsm := dB_small tg p10
  have b50 : (2 : Nat) ^ 100 ≤ 2 ^ 4000 := Nat.pow_le_pow_right (by decide) (by decide)
  have e50 : (2 : Nat) ^ 50 = 1125899906842624 := by decide
  have e100 : (2 : Nat) ^ 100 = 1267650600228229401496703205376 := by decide
  have d4 : (DD P Ss γ).natAbs < 2 ^ 4000 := by
    generalize (2 : Nat) ^ 4000 = B at *
    omega
  rw [show Ss.map tupI = (Ss.take Ss.length).map tupI by rw [List.take_length], enum_map (f := tupI) (ks := Ss) (i := Ss.length) (Nat.le_refl _), List.take_length]
  refine loop_nat (fun k s => s = [.d (webD n ts), .d (.tuple (ws.map .int)), .d (.list (Ss.map tupI)), obB P Ss ws γ, .l ((layN P Ss ws γ k).map entD), .no, .no, .no]) (fun s e => ?_) ?_ rfl
  · subst e
    obtain ⟨as, e1, e2, e3⟩ := lay_fold (ws := ws) tg Ss.length
    have ll := layN_len (P := P) (Ss := Ss) (ws := ws) (β := γ) (k := Ss.length)
    have as_small : ∀ i, ((as.take i).sum).natAbs < 2 ^ 4000 := fun i => by
      have h1 := sum_list_abs (b := 2 ^ 50) (as.take i) fun a ha => by
        obtain ⟨x, rfl⟩ := e3 a (List.mem_of_mem_take ha)
        exact Nat.le_of_lt (small _)
      have h2 : (as.take i).length ≤ 1024 := by
        have : as.length = (layN P Ss ws γ Ss.length).length := by
          have := congrArg List.length e1
          simpa using this.symm
        rw [List.length_take]
        omega
      have h3 : (as.take i).length * 2 ^ 50 ≤ 1024 * 2 ^ 50 := Nat.mul_le_mul_right _ h2
      generalize (2 : Nat) ^ 4000 = B at *
      omega
    array_get_dec
    refine ⟨by rw [List.length_map]; show _ ≤ 16777216; omega, ?_⟩
    array_get_dec
    refine comp_list entD (fun e => pairD e.2) _ (fun e he kT hkT => ?_) ?_
    · array_get_dec
      exact hkT
    · array_get_dec
      rw [show ((layN P Ss ws γ Ss.length).map fun e => pairD e.2) = ((as.map fun a => low a (DD P Ss γ))).map pairD by rw [← e1, List.map_map]; rfl]
      refine sum_of_ok (fun f hf => ?_) (fun i hi => ?_) fun fin => ?_
      · obtain ⟨a, ha, rfl⟩ := List.mem_map.mp hf
        obtain ⟨x, rfl⟩ := e3 a ha
        refine low_small tg.dpos ?_ d4
        have := small (P + x)
        generalize (2 : Nat) ^ 4000 = B at *
        omega
      · rw [← List.map_take, sumF_same tg.dpos]
        exact low_small tg.dpos (as_small i) d4
      · rw [sumF_same tg.dpos, e2, ← LP.bl_sum]
        array_get_dec
        refine prices_ok tg p10 fl fun fin => ?_
        array_get_dec
        refine st_flat_l (flatL_map (fun _ => rfl) _) ?_
        array_get_dec
        exact h γ _ tg hopt
  · rintro k s kk hk rfl hkk
    have ll := layN_len (P := P) (Ss := Ss) (ws := ws) (β := γ) (k := k)
    rw [show Ss.getD k default = Ss.getD k [] from rfl]
    array_get_dec
    refine share_ok tg p10 hk fun fin => ?_
    array_get_dec
    refine st_flat_d rfl ?_
    array_get_dec
    refine st_ne_pp (q := (0, 1)) ?_
    array_get_dec
    refine st_ite (fun c => ?_) (fun c => ?_)
    · have c : ¬ shB P Ss ws γ k = (0, 1) := by
        rw [Bool.not_eq_true'] at c
        exact of_decide_eq_false c
      array_get_dec
      refine st_append (by rw [List.length_map]; show _ < 16777216; omega) ?_
      array_get_dec
      refine hkk _ ?_
      rw [layN_succ, if_neg c, List.map_append]
      rfl
    · have c : shB P Ss ws γ k = (0, 1) := by
        rw [Bool.not_eq_false'] at c
        exact of_decide_eq_true c
      array_get_dec
      refine hkk _ ?_
      rw [layN_succ, if_pos c, List.append_nil]
      rfl
theorem nodup_le : ∀ {l m : List Int}, l.Nodup → (∀ z ∈ l, z ∈ m) → l.length ≤ m.length
  | [], _, _, _ => Nat.zero_le _
  | a :: l, m, hn, hs => by
    obtain ⟨h1, h2⟩ := List.nodup_cons.mp hn
    have h3 := hs a List.mem_cons_self
    have h4 := nodup_le (m := m.erase a) h2 fun z hz => (List.mem_erase_of_ne (fun e => h1 (by rw [← e]; exact hz))).mpr (hs z (List.mem_cons_of_mem _ hz))
    rw [List.length_erase_of_mem h3] at h4
    have := List.length_pos_of_mem h3
    rw [List.length_cons]
    omega
theorem sub_split {α : Type} {p : α} {T : List α} : ∀ {lf : List α}, (p :: T).Sublist lf → ∃ pre suf, lf = pre ++ p :: suf ∧ T.Sublist suf
  | [], h => nomatch h
  | a :: lf, h => by
    rcases List.sublist_cons_iff.mp h with h | ⟨r, e, h⟩
    · obtain ⟨pre, suf, e, hs⟩ := sub_split h
      exact ⟨a :: pre, suf, by rw [e]; rfl, hs⟩
    · obtain ⟨rfl, rfl⟩ := List.cons.inj e
      exact ⟨[], lf, rfl, h⟩
theorem ff_step {g : Int → Int → Bool} {n : Nat} {ch lf sh : List Int} (he : ¬ (lf = [] ∧ sh = [])) {S : List Int} : S ∈ ff g (n + 1) ch lf sh ↔ ∃ pre p suf, lf = pre ++ p :: suf ∧ S ∈ ff g n (ch ++ [p]) (suf.filter (g p)) ((sh ++ pre).filter (g p)) := by
  have unf : ff g (n + 1) ch lf sh = (List.range lf.length).flatMap fun (i : Nat) => ff g n (ch ++ [atZ lf i]) ((lf.drop (i + 1)).filter (g (atZ lf i))) ((sh ++ lf.take i).filter (g (atZ lf i))) := by
    show (if lf = [] ∧ sh = [] then _ else _) = _
    rw [if_neg he]
  rw [unf, List.mem_flatMap]
  constructor
  · rintro ⟨i, hi, h⟩
    have hi := List.mem_range.mp hi
    refine ⟨lf.take i, atZ lf i, lf.drop (i + 1), ?_, h⟩
    have e : lf.drop i = atZ lf i :: lf.drop (i + 1) := by
      rw [List.drop_eq_getElem_cons hi]
      simp [atZ, List.getD_eq_getElem?_getD, hi]
    rw [← e, List.take_append_drop]
  · rintro ⟨pre, p, suf, e, h⟩
    have hl : pre.length < lf.length := by rw [e]; simp
    have eat : atZ lf (pre.length : Nat) = p := by
      unfold atZ
      rw [e, Int.toNat_natCast, List.getD_eq_getElem?_getD, List.getElem?_append_right (Nat.le_refl _), Nat.sub_self]
      rfl
    have edr : lf.drop (pre.length + 1) = suf := by
      rw [e, List.drop_append, List.drop_eq_nil_of_le (by omega)]
      simp
    have etk : lf.take pre.length = pre := by
      rw [e, List.take_append, List.take_of_length_le (Nat.le_refl _)]
      simp
    refine ⟨pre.length, List.mem_range.mpr hl, ?_⟩
    rw [eat, edr, etk]
    exact h
theorem ff_mem {g : Int → Int → Bool} : ∀ (n : Nat) (ch lf sh : List Int), lf.length < n → (lf ++ sh).Nodup → ∀ S, S ∈ ff g n ch lf sh ↔ ∃ T, S = ch ++ T ∧ T.Sublist lf ∧ Clq g T ∧ ∀ z ∈ lf ++ sh, z ∉ T → ∃ u ∈ T, g u z = false
  | 0, _, _, _, h, _, _ => by omega
  | n + 1, ch, lf, sh, hn, nd, S => by
    by_cases he : lf = [] ∧ sh = []
    · obtain ⟨rfl, rfl⟩ := he
      unfold ff
      rw [if_pos ⟨rfl, rfl⟩, List.mem_singleton]
      constructor
      · rintro rfl
        exact ⟨[], by simp, List.nil_sublist _, .nil, fun z hz => nomatch hz⟩
      · rintro ⟨T, rfl, h, _⟩
        rw [List.sublist_nil.mp h, List.append_nil]
    rw [ff_step he]
    have ih : ∀ pre p suf, lf = pre ++ p :: suf → (S ∈ ff g n (ch ++ [p]) (suf.filter (g p)) ((sh ++ pre).filter (g p)) ↔ ∃ T, S = ch ++ [p] ++ T ∧ T.Sublist (suf.filter (g p)) ∧ Clq g T ∧ ∀ z ∈ suf.filter (g p) ++ (sh ++ pre).filter (g p), z ∉ T → ∃ u ∈ T, g u z = false) := fun pre p suf e => by
      refine ff_mem n _ _ _ ?_ ?_ S
      · have := List.length_filter_le (g p) suf
        rw [e, List.length_append, List.length_cons] at hn
        omega
      · rw [← List.filter_append]
        refine List.Pairwise.filter _ ?_
        show List.Nodup _
        rw [e] at nd
        have s : (suf ++ (sh ++ pre)).Perm (pre ++ suf ++ sh) := by
          rw [← List.append_assoc]
          refine List.perm_append_comm.trans ?_
          rw [← List.append_assoc]
        refine s.nodup_iff.mpr ?_
        refine nd.sublist ?_
        exact List.Sublist.append (List.Sublist.append (List.Sublist.refl _) (List.sublist_cons_self _ _)) (List.Sublist.refl _)
    constructor
    · rintro ⟨pre, p, suf, e, h⟩
      obtain ⟨T, rfl, h1, h2, h3⟩ := (ih pre p suf e).mp h
      refine ⟨p :: T, by simp, ?_, List.pairwise_cons.mpr ⟨fun b hb => (List.mem_filter.mp (h1.subset hb)).2, h2⟩, fun z hz hzT => ?_⟩
      · rw [e]
        exact (List.Sublist.cons_cons _ (h1.trans List.filter_sublist)).trans (List.sublist_append_right _ _)
      · cases gz : g p z with
        | false => exact ⟨p, List.mem_cons_self, gz⟩
        | true =>
          have zp : z ≠ p := fun e => hzT (by rw [e]; exact List.mem_cons_self)
          have zT : z ∉ T := fun h => hzT (List.mem_cons_of_mem _ h)
          obtain ⟨u, hu, hg⟩ := h3 z (by
            rw [← List.filter_append]
            refine List.mem_filter.mpr ⟨?_, gz⟩
            rw [e] at hz
            simp only [List.mem_append, List.mem_cons] at hz ⊢
            rcases hz with (hz | hz | hz) | hz
            · exact .inr (.inr hz)
            · exact (zp hz).elim
            · exact .inl hz
            · exact .inr (.inl hz)) zT
          exact ⟨u, List.mem_cons_of_mem _ hu, hg⟩
    · rintro ⟨T, rfl, h1, h2, h3⟩
      cases T with
      | nil =>
        refine (he ?_).elim
        have no : ∀ z, z ∉ lf ++ sh := fun z hz => by
          obtain ⟨u, hu, _⟩ := h3 z hz (by simp)
          cases hu
        have := List.eq_nil_iff_forall_not_mem.mpr no
        exact List.append_eq_nil_iff.mp this
      | cons p T =>
        obtain ⟨pre, suf, e, hs⟩ := sub_split h1
        obtain ⟨c1, c2⟩ := List.pairwise_cons.mp h2
        refine ⟨pre, p, suf, e, (ih pre p suf e).mpr ⟨T, by simp, ?_, c2, fun z hz hzT => ?_⟩⟩
        · have := hs.filter (g p)
          rw [List.filter_eq_self.mpr c1] at this
          exact this
        · rw [← List.filter_append] at hz
          obtain ⟨m1, m2⟩ := List.mem_filter.mp hz
          have zp : z ≠ p := by
            intro ez
            subst ez
            rw [e] at nd
            obtain ⟨n1, n2, n3⟩ := List.nodup_append.mp nd
            obtain ⟨k1, k2, k3⟩ := List.nodup_append.mp n1
            simp only [List.mem_append] at m1
            rcases m1 with m1 | m1 | m1
            · exact (List.nodup_cons.mp k2).1 m1
            · exact n3 z (by simp) z m1 rfl
            · exact k3 z m1 z (by simp) rfl
          obtain ⟨u, hu, hg⟩ := h3 z (by
            rw [e]
            simp only [List.mem_append, List.mem_cons] at m1 ⊢
            rcases m1 with m1 | m1 | m1
            · exact .inl (.inr (.inr m1))
            · exact .inr m1
            · exact .inl (.inl m1)) (by
            intro hz
            rcases List.mem_cons.mp hz with hz | hz
            · exact zp hz
            · exact hzT hz)
          rcases List.mem_cons.mp hu with rfl | hu
          · rw [m2] at hg; cases hg
          · exact ⟨u, hu, hg⟩
/-- a full set -/
structure Full (w : Bool) (n : Int) (ts : List (Int × Int)) (S : List Int) : Prop where
  up : S.Pairwise (· < ·)
  lt : ∀ z ∈ S, 0 ≤ z ∧ z < n
  tie : ∀ a ∈ S, ∀ b ∈ S, a ≠ b → Tb ts a b = w
  max : ∀ z, 0 ≤ z → z < n → z ∉ S → ∃ u ∈ S, Tb ts u z ≠ w
theorem clq_two' {g : Int → Int → Bool} (hs : ∀ a b, g a b = g b a) {a b : Int} : ∀ {T : List Int}, Clq g T → a ∈ T → b ∈ T → a ≠ b → g a b = true
  | [], _, ha, _, _ => nomatch ha
  | c :: T, h, ha, hb, ne => by
    obtain ⟨h1, h2⟩ := List.pairwise_cons.mp h
    rcases List.mem_cons.mp ha with e | ha
    · rcases List.mem_cons.mp hb with e2 | hb
      · exact (ne (by rw [e, e2])).elim
      · rw [e]; exact h1 b hb
    · rcases List.mem_cons.mp hb with e2 | hb
      · rw [hs, e2]; exact h1 a ha
      · exact clq_two' hs h2 ha hb ne
theorem fulls_mem {w : Bool} {n : Int} {ts : List (Int × Int)} (h0 : 0 ≤ n) (h10 : n ≤ 10) {S : List Int} : S ∈ fulls w n ts ↔ Full w n ts S := by
  unfold fulls
  rw [ff_mem (g := fun a b => Tb ts a b == w) 16 [] (rangeI n.toNat) [] (by rw [rangeI_len]; omega) (by rw [List.append_nil]; exact rangeI_nd)]
  have hs : ∀ a b : Int, (Tb ts a b == w) = (Tb ts b a == w) := fun a b => by rw [Tb_symm]
  constructor
  · rintro ⟨T, rfl, h1, h2, h3⟩
    refine ⟨rangeI_up.sublist h1, fun z hz => ?_, fun a ha b hb hab => by simpa using clq_two' (g := fun a b => Tb ts a b == w) hs h2 ha hb hab, fun z z0 z1 hz => ?_⟩
    · have := rangeI_mem.mp (h1.subset hz)
      omega
    · obtain ⟨u, hu, hg⟩ := h3 z (by rw [List.append_nil]; exact rangeI_mem.mpr ⟨z0, by omega⟩) hz
      exact ⟨u, hu, by simpa using hg⟩
  · intro f
    refine ⟨S, rfl, rising_sub _ _ f.up fun z hz => by have := f.lt z hz; omega, List.Pairwise.imp_of_mem (fun {a b} ha hb hab => by simpa using f.tie a ha b hb (by omega)) f.up, fun z hz hzS => ?_⟩
    rw [List.append_nil] at hz
    have := rangeI_mem.mp hz
    obtain ⟨u, hu, hg⟩ := f.max z this.1 (by omega) hzS
    exact ⟨u, hu, by simpa using hg⟩
theorem full_over {w : Bool} {n : Int} {ts : List (Int × Int)} (h0 : 0 ≤ n) (h10 : n ≤ 10) : ∀ (k : Nat) (T : List Int), n.toNat - T.length ≤ k → T.Pairwise (· < ·) → (∀ z ∈ T, 0 ≤ z ∧ z < n) → (∀ a ∈ T, ∀ b ∈ T, a ≠ b → Tb ts a b = w) → ∃ S ∈ fulls w n ts, ∀ z ∈ T, z ∈ S := by
  intro k
  induction k with
  | zero =>
    intro T hk up lt tie
    refine ⟨T, (fulls_mem h0 h10).mpr ⟨up, lt, tie, fun z z0 z1 hz => ?_⟩, fun z hz => hz⟩
    have nd : (z :: T).Nodup := List.nodup_cons.mpr ⟨hz, up.imp fun {a b} h => by omega⟩
    have := nodup_le (m := rangeI n.toNat) nd fun y hy => by
      rcases List.mem_cons.mp hy with rfl | hy
      · exact rangeI_mem.mpr ⟨z0, by omega⟩
      · have := lt y hy
        exact rangeI_mem.mpr ⟨by omega, by omega⟩
    rw [rangeI_len, List.length_cons] at this
    omega
  | succ k ih =>
    intro T hk up lt tie
    by_cases hm : ∀ z, 0 ≤ z → z < n → z ∉ T → ∃ u ∈ T, Tb ts u z ≠ w
    · exact ⟨T, (fulls_mem h0 h10).mpr ⟨up, lt, tie, hm⟩, fun z hz => hz⟩
    · obtain ⟨z, hz⟩ := Classical.not_forall.mp hm
      obtain ⟨z0, hz⟩ := Classical.not_imp.mp hz
      obtain ⟨z1, hz⟩ := Classical.not_imp.mp hz
      obtain ⟨zT, hz⟩ := Classical.not_imp.mp hz
      have all : ∀ u ∈ T, Tb ts u z = w := fun u hu => Classical.byContradiction fun h => hz ⟨u, hu, h⟩
      have mem : ∀ x, x ∈ (rangeI n.toNat).filter (fun x => decide (x ∈ z :: T)) ↔ x ∈ z :: T := fun x => by
        rw [List.mem_filter, decide_eq_true_eq]
        refine ⟨fun h => h.2, fun h => ⟨?_, h⟩⟩
        rcases List.mem_cons.mp h with rfl | h
        · exact rangeI_mem.mpr ⟨z0, by omega⟩
        · have := lt x h
          exact rangeI_mem.mpr ⟨by omega, by omega⟩
      have nd : (z :: T).Nodup := List.nodup_cons.mpr ⟨zT, up.imp fun {a b} h => by omega⟩
      have l1 := nodup_le nd fun x hx => (mem x).mpr hx
      have l2 : ((rangeI n.toNat).filter (fun x => decide (x ∈ z :: T))).length ≤ n.toNat := by
        have := List.length_filter_le (fun x => decide (x ∈ z :: T)) (rangeI n.toNat)
        rw [rangeI_len] at this
        exact this
      rw [List.length_cons] at l1
      obtain ⟨S, hS, hsub⟩ := ih ((rangeI n.toNat).filter (fun x => decide (x ∈ z :: T))) (by omega) (rangeI_up.sublist List.filter_sublist) (fun x hx => by
          have := rangeI_mem.mp (List.mem_filter.mp hx).1
          omega) (fun a ha b hb hab => by
          rcases List.mem_cons.mp ((mem a).mp ha) with ea | ha
          · rcases List.mem_cons.mp ((mem b).mp hb) with eb | hb
            · exact (hab (by rw [ea, eb])).elim
            · rw [ea, Tb_symm]; exact all b hb
          · rcases List.mem_cons.mp ((mem b).mp hb) with eb | hb
            · rw [eb]; exact all a ha
            · exact tie a ha b hb hab)
      exact ⟨S, hS, fun x hx => hsub x ((mem x).mpr (List.mem_cons_of_mem _ hx))⟩
def ind (S : List Int) (p : Nat) : Int := if (p : Int) ∈ S then 1 else 0
structure Told (P : Nat) (Ss : List (List Int)) (ws : List Int) (d : Int) (y x : Nat → Int) : Prop where
  dpos : 0 < d
  dle : d ≤ 3628800
  y0 : ∀ i, i < Ss.length → 0 ≤ y i
  ysm : ∀ i, (y i).natAbs < 2 ^ 50
  x0 : ∀ p, 0 ≤ x p
  xle : ∀ p, p < P → x p ≤ d
  cov : ∀ p, p < P → d * ws.getD p 0 ≤ LP.sm Ss.length fun i => ind (Ss.getD i []) p * y i
  pack : ∀ i, i < Ss.length → (LP.sm P fun p => ind (Ss.getD i []) p * x p) ≤ d
  same : LP.sm Ss.length y = LP.sm P fun p => ws.getD p 0 * x p
theorem ind_nn {S : List Int} {p : Nat} : 0 ≤ ind S p := by unfold ind; split <;> decide
theorem sm_le1 {n : Nat} {f : Nat → Int} {k : Nat} (hk : k < n) (h : ∀ i, i < n → 0 ≤ f i) : f k ≤ LP.sm n f := by
  have e := LP.sm_one (n := n) (f := fun i => if i = k then f i else 0) hk fun i _ hi => if_neg hi
  have l := LP.sm_le (n := n) (f := fun i => if i = k then f i else 0) (g := f) fun i hi => by
    split
    · exact Int.le_refl _
    · exact h i hi
  rw [e] at l
  simpa using l
theorem told_of {P : Nat} {Ss : List (List Int)} {ws : List Int} {γ : Nat → Nat} (t : TabB P Ss γ) (hp : P ≤ 10) (hm : Ss.length ≤ 1024) (hw : ∀ w ∈ ws, 0 ≤ w ∧ w ≤ 99) (hc : ∀ j : Nat, j < P → ∃ x, x < Ss.length ∧ (j : Int) ∈ Ss.getD x []) (ho : ∀ j, j < P + Ss.length → 0 ≤ BB P Ss ws γ j) :
    Told P Ss ws (DD P Ss γ) (fun i => BB P Ss ws γ (P + i)) (LP.xv Ss.length (P + Ss.length) (LP.acol P Ss) γ) := by
  have ac : ∀ p i, p < P → LP.acol P Ss p i = ind (Ss.getD i []) p := fun p i hp => by
    unfold LP.acol ind
    rw [if_pos hp]
  have pk : ∀ i, i < Ss.length → (LP.sm P fun p => ind (Ss.getD i []) p * LP.xv Ss.length (P + Ss.length) (LP.acol P Ss) γ p) ≤ DD P Ss γ := fun i hi => by
    have e := t.fill hi
    have n := LP.xv_nonneg t (P + i)
    rw [LP.sm_congr (g := fun p => LP.acol P Ss p i * LP.xv Ss.length (P + Ss.length) (LP.acol P Ss) γ p) fun p hp => by rw [ac p i hp]]
    show _ ≤ LP.dB Ss.length (LP.acol P Ss) γ
    omega
  refine ⟨t.dpos, ?_, fun i hi => ho _ (by omega), fun i => bl_small t hp hm hw, fun p => LP.xv_nonneg t p, fun p hp => ?_, fun p hp => ?_, pk, ?_⟩
  · have : (LP.dB Ss.length (LP.acol P Ss) γ).natAbs ≤ 3628800 := dB_small t hp
    have := t.dpos
    show LP.dB Ss.length (LP.acol P Ss) γ ≤ _
    omega
  · obtain ⟨i, hi, hin⟩ := hc p hp
    have l := sm_le1 (f := fun p => ind (Ss.getD i []) p * LP.xv Ss.length (P + Ss.length) (LP.acol P Ss) γ p) hp fun q _ => Int.mul_nonneg ind_nn (LP.xv_nonneg t q)
    have e : ind (Ss.getD i []) p = 1 := if_pos hin
    rw [e, Int.one_mul] at l
    exact Int.le_trans l (pk i hi)
  · have e := LP.bl_place (P := P) (Ss := Ss) (ws := ws) (β := γ) hp
    have n := ho p (by omega)
    rw [LP.sm_congr (g := fun i => LP.acol P Ss p i * LP.bl Ss.length (LP.acol P Ss) (LP.cwant P ws) γ (P + i)) fun i _ => by rw [ac p i hp]]
    show LP.dB Ss.length (LP.acol P Ss) γ * _ ≤ _
    have n : 0 ≤ LP.bl Ss.length (LP.acol P Ss) (LP.cwant P ws) γ p := n
    omega
  · rw [← LP.bl_sum]
    exact t.worth
def layT (Ss : List (List Int)) (d : Int) (y : Nat → Int) (k : Nat) : List (List Int × (Int × Int)) := ((List.range k).map fun i => (Ss.getD i [], low (y i) d)).filter fun e => decide (e.2 ≠ (0, 1))
def prT (P : Nat) (d : Int) (x : Nat → Int) : List (Int × Int) := (List.range P).map fun p => low (x p) d
theorem layT_succ {Ss : List (List Int)} {d : Int} {y : Nat → Int} {k : Nat} : layT Ss d y (k + 1) = layT Ss d y k ++ if low (y k) d = (0, 1) then [] else [(Ss.getD k [], low (y k) d)] := by
  unfold layT
  rw [List.range_succ, List.map_append, List.filter_append]
  congr 1
  show List.filter _ [(Ss.getD k [], low (y k) d)] = _
  by_cases h : low (y k) d = (0, 1)
  · rw [if_pos h, List.filter_cons_of_neg (by simp [h])]; rfl
  · rw [if_neg h, List.filter_cons_of_pos (by simp [h])]; rfl
theorem low_zero {a d : Int} (hd : 0 < d) (h : low a d = (0, 1)) : a = 0 := by
  have hc := low_cross (a := a) hd
  rw [h] at hc
  omega
theorem lay_sum {Ss : List (List Int)} {d : Int} {y : Nat → Int} (hd : 0 < d) (q : List Int → Bool) : ∀ k, ∃ as : List Int, ((layT Ss d y k).filter fun e => q e.1).map (·.2) = as.map (fun a => low a d) ∧ as.sum = LP.sm k (fun i => if q (Ss.getD i []) = true then y i else 0) ∧ ∀ a ∈ as, ∃ i, i < k ∧ a = y i
  | 0 => ⟨[], rfl, rfl, fun a ha => nomatch ha⟩
  | k + 1 => by
    obtain ⟨as, e1, e2, e3⟩ := lay_sum hd q k
    have sm1 : LP.sm (k + 1) (fun i => if q (Ss.getD i []) = true then y i else 0) = LP.sm k (fun i => if q (Ss.getD i []) = true then y i else 0) + if q (Ss.getD k []) = true then y k else 0 := rfl
    rw [layT_succ, List.filter_append, List.map_append, e1, sm1]
    by_cases h : low (y k) d = (0, 1)
    · rw [if_pos h]
      refine ⟨as, by simp, ?_, fun a ha => let ⟨i, h1, h2⟩ := e3 a ha; ⟨i, by omega, h2⟩⟩
      rw [low_zero hd h, e2]
      split <;> omega
    · rw [if_neg h]
      by_cases hq : q (Ss.getD k []) = true
      · rw [List.filter_cons_of_pos (p := fun e : List Int × (Int × Int) => q e.1) hq, if_pos hq]
        refine ⟨as ++ [y k], by rw [List.map_append]; rfl, ?_, fun a ha => ?_⟩
        · rw [List.sum_append, e2]
          simp
        · rcases List.mem_append.mp ha with ha | ha
          · obtain ⟨i, h1, h2⟩ := e3 a ha
            exact ⟨i, by omega, h2⟩
          · exact ⟨k, by omega, List.mem_singleton.mp ha⟩
      · rw [List.filter_cons_of_neg (p := fun e : List Int × (Int × Int) => q e.1) hq, if_neg hq]
        refine ⟨as, by simp, by omega, fun a ha => let ⟨i, h1, h2⟩ := e3 a ha; ⟨i, by omega, h2⟩⟩
theorem layT_mem {Ss : List (List Int)} {d : Int} {y : Nat → Int} {k : Nat} {e : List Int × (Int × Int)} (h : e ∈ layT Ss d y k) : ∃ i, i < k ∧ e = (Ss.getD i [], low (y i) d) ∧ e.2 ≠ (0, 1) := by
  obtain ⟨h1, h2⟩ := List.mem_filter.mp h
  obtain ⟨i, hi, rfl⟩ := List.mem_map.mp h1
  exact ⟨i, List.mem_range.mp hi, rfl, of_decide_eq_true h2⟩
theorem layT_len {Ss : List (List Int)} {d : Int} {y : Nat → Int} {k : Nat} : (layT Ss d y k).length ≤ k := by
  unfold layT
  refine Nat.le_trans (List.length_filter_le _ _) ?_
  simp
/-- as shares_in tells it -/
theorem shares_in_told {n : Int} {ts : List (Int × Int)} {ws : List Int} (g : Good n ts) (hl : ws.length = n.toNat) (hw : ∀ w ∈ ws, 0 ≤ w ∧ w ≤ 99) (hc : ∀ j : Nat, j < n.toNat → ∃ x, x < (fulls false n ts).length ∧ (j : Int) ∈ (fulls false n ts).getD x []) {X : XF} {Q : R → S → Prop}
    (h : ∀ d y x fin, Told n.toNat (fulls false n ts) ws d y x →
      Q (.d (.tuple [pairD (low (LP.sm (fulls false n ts).length y) d), .list ((layT (fulls false n ts) d y (fulls false n ts).length).map entD), .list ((prT n.toNat d x).map pairD)])) fin) : m_shares_in [.d (webD n ts), .d (.tuple (ws.map .int))] X Q := by
  have n10 := g.n10
  refine shares_in_ok g hl hw hc fun γ fin t ho => ?_
  have q := h _ _ _ fin (told_of t (by omega) (fulls_len g) hw hc ho)
  rw [← LP.bl_sum] at q
  exact q
theorem fulls_cov {n : Int} {ts : List (Int × Int)} (g : Good n ts) : ∀ j : Nat, j < n.toNat → ∃ x, x < (fulls false n ts).length ∧ (j : Int) ∈ (fulls false n ts).getD x [] := fun j hj => by
  obtain ⟨S, hS, hz⟩ := full_over (w := false) (n := n) (ts := ts) g.n0 g.n10 _ [(j : Int)] (Nat.le_refl _) (List.pairwise_singleton _ _) (fun z hz => by have := List.mem_singleton.mp hz; have := g.n0; omega) (fun a ha b hb hab => by
    rw [List.mem_singleton.mp ha, List.mem_singleton.mp hb] at hab
    exact absurd rfl hab)
  obtain ⟨x, hx, e⟩ := List.getElem_of_mem hS
  refine ⟨x, hx, ?_⟩
  rw [List.getD_eq_getElem?_getD, List.getElem?_eq_getElem hx, e]
  exact hz _ (by simp)
/-- the wants are met -/
theorem Told.met {P : Nat} {Ss : List (List Int)} {ws : List Int} {d : Int} {y x : Nat → Int} (h : Told P Ss ws d y x) {p : Nat} (hp : p < P) : d * ws.getD p 0 ≤ LP.sm Ss.length fun i => if decide ((p : Int) ∈ Ss.getD i []) = true then y i else 0 := by
  refine Int.le_trans (h.cov p hp) (Int.le_of_eq (LP.sm_congr fun i _ => ?_))
  unfold ind
  by_cases hz : (p : Int) ∈ Ss.getD i []
  · rw [if_pos hz, if_pos (decide_eq_true hz), Int.one_mul]
  · rw [if_neg hz, if_neg (by simpa using hz), Int.zero_mul]
theorem low_ge {a d w : Int} (hd : 0 < d) (h : d * w ≤ a) : w * (low a d).2 ≤ (low a d).1 := by
  have h1 := low_den (a := a) hd
  have h2 := low_cross (a := a) hd
  have h3 : (w * (low a d).2) * d ≤ (low a d).1 * d := by
    rw [h2]
    calc w * (low a d).2 * d = (d * w) * (low a d).2 := by grind
      _ ≤ a * (low a d).2 := Int.mul_le_mul_of_nonneg_right h (by omega)
  exact Int.le_of_mul_le_mul_right h3 hd
theorem low_low {a d : Int} (hd : 0 < d) : low (low a d).1 (low a d).2 = low a d := low_eq (low_den hd) hd (low_cross hd)
end Lk51
namespace Lk51
open PySem Hs
local macro_rules
  | `(tactic| sizeOf_list_dec) => `(tactic| first
    | with_reducible refine st_seq ?_ | with_reducible refine st_asg ?_ | with_reducible refine st_cons ?_ | with_reducible refine st_nil ?_ | with_reducible refine st_C ?_ | with_reducible refine st_op ?_
    | with_reducible refine st_var_d ?_ | with_reducible refine st_var_l ?_ | with_reducible refine st_var_ll ?_ | with_reducible refine st_var_dc ?_
    | with_reducible refine st_look_d ?_ | with_reducible refine st_look_top ?_ | with_reducible refine st_look_top_d ?_ | with_reducible refine st_look_own ?_ | with_reducible refine st_look_top_dc ?_ | with_reducible refine st_look_own_dc ?_ | with_reducible refine st_put_d ?_ | with_reducible refine st_put_own ?_ | with_reducible refine st_put_top_l ?_ | with_reducible refine st_put_top_ll ?_ | with_reducible refine st_put_top_dc ?_
    | ((with_reducible refine st_callF ?_ ?_); eq_refl) | with_reducible refine st_call ?_ | with_reducible refine st_putK_nil ?_ | with_reducible refine st_putK_t ?_ | with_reducible refine st_putK_f ?_ | with_reducible refine st_putK_td ?_ | with_reducible refine st_putK_to ?_ | with_reducible refine st_bind_nil ?_ | with_reducible refine st_bind_f ?_ | with_reducible refine st_bind_tt ?_ | with_reducible refine st_bind_td ?_ | with_reducible refine st_bind_to ?_
    | with_reducible refine st_frz_d ?_ | with_reducible refine st_frz_own ?_ | with_reducible refine st_frz_top ?_ | with_reducible refine st_frz_own_ll ?_ | with_reducible refine st_frz_own_dc ?_ | with_reducible refine st_frz_top_ll ?_ | with_reducible refine st_frz_top_dc ?_ | with_reducible refine st_frzAll_nil ?_ | with_reducible refine st_frzAll_cons ?_
    | with_reducible refine st_if ?_ | with_reducible refine st_B ?_ | with_reducible refine st_and ?_ | with_reducible refine st_or ?_ | with_reducible refine st_not ?_ | with_reducible refine st_yes ?_ | with_reducible refine st_isB ?_ | with_reducible refine st_t ?_ | with_reducible refine st_f ?_ | ((with_reducible refine st_iteT ?_ ?_); decide) | ((with_reducible refine st_iteF ?_ ?_); decide)
    | with_reducible refine st_nt ?_ | with_reducible refine st_nf ?_
    | with_reducible refine st_ret ?_ | with_reducible refine st_next ?_ | with_reducible refine st_retN ?_ | with_reducible refine st_drop ?_ | with_reducible refine st_break ?_ | with_reducible refine st_raise ?_
    | with_reducible refine st_out_d ?_ | with_reducible refine st_out_own ?_ | with_reducible refine st_out_top ?_
    | with_reducible refine st_tup ?_ | with_reducible refine st_lst ?_ | with_reducible refine st_un ?_ | with_reducible refine st_blt ?_ | with_reducible refine st_lookAll_nil ?_ | with_reducible refine st_lookAll_cons ?_
    | with_reducible refine st_unp ?_ | with_reducible refine st_par ?_ | with_reducible refine st_setIx ?_ | with_reducible refine st_onL ?_ | with_reducible refine st_for ?_ | with_reducible refine st_wipe_nil ?_ | with_reducible refine st_wipe_cons ?_ | with_reducible refine st_andV ?_ | with_reducible refine st_orV ?_ | with_reducible refine st_notV ?_ | with_reducible refine st_ifE ?_ | with_reducible refine st_chain ?_
    | with_reducible refine st_sl ?_ | with_reducible refine st_noPart ?_ | with_reducible refine st_part ?_ | with_reducible refine st_lc ?_ | with_reducible refine st_lm ?_
    | with_reducible refine st_seqI ?_ | with_reducible refine st_range1 ?_ | with_reducible refine st_range2 ?_ | with_reducible refine st_enum ?_ | with_reducible refine st_zip ?_
    | with_reducible refine st_nm ?_ | with_reducible refine st_tp ?_ | with_reducible refine st_tps_nil ?_ | with_reducible refine st_tps_cons ?_
    | ((with_reducible refine st_mod_i ?_ ?_); (first | decide | omega)) | ((with_reducible refine st_fdiv_i ?_ ?_); decide) 
    | with_reducible refine st_add_i ?_ | with_reducible refine st_sub_i ?_ | with_reducible refine st_neg_i ?_ | with_reducible refine st_eq_i ?_ | with_reducible refine st_ne_i ?_ | with_reducible refine st_eq_str ?_ | with_reducible refine st_ne_str ?_ | with_reducible refine st_eq_b ?_ | with_reducible refine st_ne_b ?_ | with_reducible refine st_lt_i ?_ | with_reducible refine st_le_i ?_ | with_reducible refine st_gt_i ?_ | with_reducible refine st_ge_i ?_
    | with_reducible refine st_is_n ?_ | with_reducible refine st_isNot_n ?_ | with_reducible refine st_is_b ?_ | with_reducible refine st_isNot_b ?_ | ((with_reducible refine st_ix_l (x := ?_) ?_ ?_); rotate_left; eq_refl) | ((with_reducible refine st_ix_t (x := ?_) ?_ ?_); rotate_left; eq_refl) | with_reducible refine st_len_l ?_ | with_reducible refine st_len_t ?_ | with_reducible refine st_len_lit ?_
    | with_reducible refine st_abs ?_ | with_reducible refine st_max2 ?_ | with_reducible refine st_min2 ?_ | with_reducible refine st_int_i ?_ | with_reducible refine st_int_b ?_ | with_reducible refine st_tuple_l ?_ | with_reducible refine st_tuple_t ?_ | with_reducible refine st_list_l ?_ | with_reducible refine st_list_t ?_ | ((with_reducible refine st_isT ?_ ?_); eq_refl) | ((with_reducible refine st_isTT ?_ ?_); eq_refl) | ((with_reducible refine st_isTF ?_ ?_); eq_refl) | ((with_reducible refine st_isNT ?_ ?_); eq_refl) | ((with_reducible refine st_isNF ?_ ?_); eq_refl)
    | with_reducible refine st_rg1 ?_ | with_reducible refine st_rg2 ?_ | with_reducible refine st_enumL ?_ | with_reducible refine st_zipS ?_ | with_reducible refine st_rev_l ?_ | with_reducible refine st_rev_t ?_
    | with_reducible refine st_ne_ll ?_ | with_reducible refine st_ne_lit ?_ | with_reducible refine st_in_pt ?_ | with_reducible refine st_in_pl ?_
    | with_reducible refine st_sl_l ?_ | with_reducible refine st_sl_t ?_
    | ((with_reducible refine st_iteLen ?_ ?_); eq_refl) | ((with_reducible refine st_iteNLen ?_ ?_); eq_refl) | with_reducible refine st_iteBB ?_ | ((with_reducible refine st_iteND ?_ ?_); omega) | ((with_reducible refine st_iteNF ?_ ?_); omega)
    | ((with_reducible refine st_iteT (decide_eq_true ?_) ?_); omega) | ((with_reducible refine st_iteF (decide_eq_false ?_) ?_); omega))
local macro_rules
  | `(tactic| sizeOf_list_dec) => `(tactic| with_reducible refine stepTo ?_)
local macro_rules
  | `(tactic| array_get_dec) => `(tactic| repeat sizeOf_list_dec)
local macro_rules
  | `(tactic| sizeOf_list_dec) => `(tactic| first | with_reducible refine st_ix2_l ?_ | with_reducible refine st_ix2_t ?_ | with_reducible refine st_ix2_s ?_ | with_reducible refine st_ix2_lit ?_ | with_reducible refine st_inK_l ?_ | with_reducible refine st_inK_t ?_ | with_reducible refine st_ninK_l ?_ | with_reducible refine st_ninK_t ?_ | with_reducible refine st_setD ?_ | with_reducible refine st_onDc ?_ | with_reducible refine st_dget2 ?_ | with_reducible refine st_emT ?_ | with_reducible refine st_emD ?_ | with_reducible refine st_disp1 ?_ | with_reducible refine st_disp1k ?_ | with_reducible refine st_range3 ?_ | with_reducible refine st_bor ?_ | with_reducible refine st_borT ?_ | with_reducible refine st_bindT_nil ?_ | with_reducible refine st_bindT_d ?_ | with_reducible refine st_bindT_o ?_ | with_reducible refine st_bindT_t ?_ | with_reducible refine st_toPs_nil ?_ | with_reducible refine st_toPs_d ?_ | with_reducible refine st_toPs_l ?_ | with_reducible refine st_toPs_dc ?_ | with_reducible refine st_tupO ?_ | with_reducible refine st_var_tp ?_ | with_reducible refine st_frz_own_tp ?_ | with_reducible refine st_frz_top_tp ?_ | with_reducible refine st_lmP ?_ | ((with_reducible refine st_onP ?_ ?_); eq_refl) | with_reducible refine st_flat_b ?_ | with_reducible refine st_flat_i ?_)
local macro_rules
  | `(tactic| sizeOf_list_dec) => `(tactic| first | with_reducible refine st_fld_d ?_ | with_reducible refine st_fld_ob ?_ | with_reducible refine st_var_ob ?_ | with_reducible refine st_toPV_d ?_ | with_reducible refine st_toPV_l ?_ | with_reducible refine st_toPV_top_l ?_ | ((with_reducible refine st_obSet ?_ ?_); (exact Nat.le_of_ble_eq_true rfl)) | with_reducible refine st_setF ?_ | with_reducible refine st_setFI ?_ | with_reducible refine st_lmF ?_ | with_reducible refine st_meth_ob ?_ | with_reducible refine st_meth_d ?_ | with_reducible refine st_make ?_ | with_reducible refine st_mkK ?_ | with_reducible refine st_ixP ?_ | with_reducible refine st_zipM ?_)
local macro_rules
  | `(tactic| sizeOf_list_dec) => `(tactic| first | ((with_reducible refine st_gFld ?_ ?_); (exact Nat.le_of_ble_eq_true rfl)) | with_reducible refine st_par3 ?_ | with_reducible refine st_par3K ?_ | with_reducible refine st_lmT ?_ | with_reducible refine st_onOwnL ?_ | with_reducible refine st_onDs_nil ?_ | with_reducible refine st_onDs_cons ?_ | with_reducible refine st_clearT ?_)
local macro_rules
  | `(tactic| sizeOf_list_dec) => `(tactic| first | ((with_reducible refine st_isX (b := false) ?_ ?_); (decide +kernel)) | ((with_reducible refine st_isX (b := true) ?_ ?_); (decide +kernel)) | with_reducible refine st_try ?_)
local macro_rules
  | `(tactic| sizeOf_list_dec) => `(tactic| with_reducible refine is_whole_ok fun _ => ?_)
local macro_rules
  | `(tactic| sizeOf_list_dec) => `(tactic| first | with_reducible refine st_in_il ?_ | with_reducible refine st_in_it ?_ | with_reducible refine st_notIn_il ?_ | with_reducible refine st_notIn_it ?_ | with_reducible refine st_ne_ll ?_)
local macro_rules
  | `(tactic| sizeOf_list_dec) => `(tactic| first | with_reducible refine st_lcK ?_ | with_reducible refine st_rowOf ?_)
def AgB (ts : List (Int × Int)) (w : Bool) (ls : List Int) : Prop := ls.Pairwise fun a b => Tb ts a b = w
abbrev Lay := List (List Int × (Int × Int))
structure LayOk (n : Int) (ts : List (Int × Int)) (L : Lay) : Prop where
  set : ∀ e ∈ L, Set' n e.1
  ap : ∀ e ∈ L, AgB ts false e.1
  num : ∀ e ∈ L, 0 < e.2.1
  den : ∀ e ∈ L, 1 ≤ e.2.2 ∧ e.2.2 ≤ 1000000000
  up : L.Pairwise fun a b => lexL a.1 b.1 = true
  few : L.length ≤ 1024
  sm : ∀ e ∈ L, Sm e.2
theorem is_less_ok {f q : Int × Int} (h1 : Sm f) (h2 : Sm q) {X : XF} {Q : R → S → Prop} (h : ∀ fin, Q (.d (.bool (decide (f.1 * q.2 < q.1 * f.2)))) fin) : m_is_less [.d (pairD f), .d (pairD q)] X Q := by
  unfold m_is_less b_is_less
  refine st_sem rfl ?_
  array_get_dec
  refine st_mul_i (okM_of 4000 4000 h1.1 h2.2.1) ?_
  array_get_dec
  refine st_mul_i (okM_of 4000 4000 h2.1 h1.2.1) ?_
  array_get_dec
  exact h _
theorem sm_int {w : Int} (h0 : 0 ≤ w) (h : w ≤ 99) : Sm (w, 1) := by
  have e : (2 : Nat) ^ 100 ≤ 2 ^ 4000 := Nat.pow_le_pow_right (by decide) (by decide)
  have e2 : (2 : Nat) ^ 100 = 1267650600228229401496703205376 := by decide
  refine ⟨?_, ?_, show (0 : Int) < 1 by decide⟩
  · generalize (2 : Nat) ^ 4000 = B at *
    show w.natAbs < B
    omega
  · generalize (2 : Nat) ^ 4000 = B at *
    show (1 : Int).natAbs < B
    omega
/-- what the sets that have a place have together -/
def atP (L : Lay) (p : Int) : List (Int × Int) := (L.filter fun e => decide (p ∈ e.1)).map (·.2)
/-- what each place's want is worth -/
def worthL (ws : List Int) (ps : List (Int × Int)) : List (Int × Int) := (ws.zip ps).map fun e => low (e.1 * e.2.1) (1 * e.2.2)
theorem sm_of {a d : Int} (hd : 0 < d) (h1 : a.natAbs < 2 ^ 100) (h2 : d.natAbs < 2 ^ 100) : Sm (low a d) := by
  have b : (2 : Nat) ^ 100 ≤ 2 ^ 4000 := Nat.pow_le_pow_right (by decide) (by decide)
  exact low_small hd (Nat.lt_of_lt_of_le h1 b) (Nat.lt_of_lt_of_le h2 b)
theorem e100 : (2 : Nat) ^ 100 = 1267650600228229401496703205376 := by decide
theorem e50 : (2 : Nat) ^ 50 = 1125899906842624 := by decide
/-- sums of fractions over one number are small -/
theorem sums_small {d : Int} {as : List Int} (hd : 0 < d) (hd2 : d ≤ 3628800) (hl : as.length ≤ 1024) (ha : ∀ a ∈ as, a.natAbs < 2 ^ 50) (i : Nat) : Sm (sumF ((as.map fun a => low a d).take i)) := by
  rw [← List.map_take, sumF_same hd]
  have h1 := sum_list_abs (b := 2 ^ 50) (as.take i) fun a h => Nat.le_of_lt (ha a (List.mem_of_mem_take h))
  have h2 : (as.take i).length ≤ 1024 := by rw [List.length_take]; omega
  have h3 : (as.take i).length * 2 ^ 50 ≤ 1024 * 2 ^ 50 := Nat.mul_le_mul_right _ h2
  have := e100
  have := e50
  exact sm_of hd (by omega) (by omega)
section
variable {n : Int} {ts : List (Int × Int)} {ws : List Int} {d : Int} {y x : Nat → Int}
theorem Told.lay (g : Good n ts) (h : Told n.toNat (fulls false n ts) ws d y x) : LayOk n ts (layT (fulls false n ts) d y (fulls false n ts).length) := by
  have hd := h.dpos
  have hd2 := h.dle
  have at_ : ∀ i, i < (fulls false n ts).length → (fulls false n ts).getD i [] ∈ fulls false n ts := fun i hi => by
    rw [List.getD_eq_getElem?_getD, List.getElem?_eq_getElem hi]
    exact List.getElem_mem hi
  have den : ∀ a : Int, 1 ≤ (low a d).2 ∧ (low a d).2 ≤ 3628800 := fun a => by
    have h1 := low_den (a := a) hd
    have h2 := (low_abs (a := a) (b := d)).2
    omega
  refine ⟨fun e he => ?_, fun e he => ?_, fun e he => ?_, fun e he => ?_, ?_, Nat.le_trans layT_len (fulls_len g), fun e he => ?_⟩
  · obtain ⟨i, hi, rfl, _⟩ := layT_mem he
    have f := (fulls_mem (w := false) g.n0 g.n10).mp (at_ i hi)
    exact ⟨f.up, f.lt⟩
  · obtain ⟨i, hi, rfl, _⟩ := layT_mem he
    exact (fulls_clq _ (at_ i hi)).2
  · obtain ⟨i, hi, rfl, ne⟩ := layT_mem he
    dsimp only at ne ⊢
    have hc := low_cross (a := y i) hd
    have hy := h.y0 i hi
    have hden := low_den (a := y i) hd
    have hn := low_num (b := d) hy
    rcases Int.lt_or_eq_of_le hn with q | q
    · exact q
    · exfalso
      rw [← q, Int.zero_mul] at hc
      have : y i = 0 := by
        rcases Int.mul_eq_zero.mp hc.symm with q | q
        · exact q
        · omega
      rw [this, low0 hd] at ne
      exact ne rfl
  · obtain ⟨i, hi, rfl, _⟩ := layT_mem he
    have := den (y i)
    dsimp only
    omega
  · unfold layT
    refine List.Pairwise.filter _ (List.pairwise_map.mpr ?_)
    have up := fulls_up (w := false) (n := n) (ts := ts)
    rw [List.pairwise_iff_getElem] at up
    refine List.Pairwise.imp_of_mem (R := fun i j => i < j) (fun {i j} hi hj hij => ?_) List.pairwise_lt_range
    have hi := List.mem_range.mp hi
    have hj := List.mem_range.mp hj
    rw [List.getD_eq_getElem?_getD, List.getD_eq_getElem?_getD, List.getElem?_eq_getElem hi, List.getElem?_eq_getElem hj]
    exact up i j hi hj hij
  · obtain ⟨i, hi, rfl, _⟩ := layT_mem he
    have := h.ysm i
    have := e100
    have := e50
    exact sm_of hd (by omega) (by omega)
theorem Told.atp (g : Good n ts) (h : Told n.toNat (fulls false n ts) ws d y x) {p : Nat} : ∃ as : List Int, atP (layT (fulls false n ts) d y (fulls false n ts).length) p = as.map (fun a => low a d) ∧ as.sum = LP.sm (fulls false n ts).length (fun i => if decide ((p : Int) ∈ (fulls false n ts).getD i []) = true then y i else 0) ∧ (∀ a ∈ as, a.natAbs < 2 ^ 50) ∧ as.length ≤ 1024 := by
  obtain ⟨as, e1, e2, e3⟩ := lay_sum (Ss := fulls false n ts) (y := y) h.dpos (fun S => decide ((p : Int) ∈ S)) (fulls false n ts).length
  refine ⟨as, e1, e2, fun a ha => ?_, ?_⟩
  · obtain ⟨i, _, rfl⟩ := e3 a ha
    exact h.ysm i
  · have := congrArg List.length e1
    rw [List.length_map, List.length_map] at this
    rw [← this]
    exact Nat.le_trans (List.length_filter_le _ _) (Nat.le_trans layT_len (fulls_len g))
theorem Told.all (g : Good n ts) (h : Told n.toNat (fulls false n ts) ws d y x) : ∃ as : List Int, (layT (fulls false n ts) d y (fulls false n ts).length).map (·.2) = as.map (fun a => low a d) ∧ as.sum = LP.sm (fulls false n ts).length y ∧ (∀ a ∈ as, a.natAbs < 2 ^ 50) ∧ as.length ≤ 1024 := by
  obtain ⟨as, e1, e2, e3⟩ := lay_sum (Ss := fulls false n ts) (y := y) h.dpos (fun _ => true) (fulls false n ts).length
  rw [List.filter_eq_self.mpr fun _ _ => rfl] at e1
  refine ⟨as, e1, by rw [e2]; exact LP.sm_congr fun i _ => if_pos rfl, fun a ha => ?_, ?_⟩
  · obtain ⟨i, _, rfl⟩ := e3 a ha
    exact h.ysm i
  · have := congrArg List.length e1
    rw [List.length_map, List.length_map] at this
    rw [← this]
    exact Nat.le_trans layT_len (fulls_len g)
theorem Told.sm2 (g : Good n ts) (h : Told n.toNat (fulls false n ts) ws d y x) (p i : Nat) : Sm (sumF ((atP (layT (fulls false n ts) d y (fulls false n ts).length) p).take i)) := by
  obtain ⟨as, e1, e2, e3, e4⟩ := h.atp g (p := p)
  rw [e1]
  exact sums_small h.dpos h.dle e4 e3 i
theorem Told.sm3 (g : Good n ts) (h : Told n.toNat (fulls false n ts) ws d y x) (i : Nat) : Sm (sumF (((layT (fulls false n ts) d y (fulls false n ts).length).map (·.2)).take i)) := by
  obtain ⟨as, e1, e2, e3, e4⟩ := h.all g
  rw [e1]
  exact sums_small h.dpos h.dle e4 e3 i
theorem Told.total (g : Good n ts) (h : Told n.toNat (fulls false n ts) ws d y x) : sumF ((layT (fulls false n ts) d y (fulls false n ts).length).map (·.2)) = low (LP.sm (fulls false n ts).length y) d := by
  obtain ⟨as, e1, e2, e3, e4⟩ := h.all g
  rw [e1, sumF_same h.dpos, e2]
theorem Told.meets (g : Good n ts) (h : Told n.toNat (fulls false n ts) ws d y x) {p : Nat} (hp : p < n.toNat) : ws.getD p 0 * (sumF (atP (layT (fulls false n ts) d y (fulls false n ts).length) p)).2 ≤ (sumF (atP (layT (fulls false n ts) d y (fulls false n ts).length) p)).1 := by
  obtain ⟨as, e1, e2, e3, e4⟩ := h.atp g (p := p)
  rw [e1, sumF_same h.dpos, e2]
  exact low_ge h.dpos (h.met hp)
/-- the worth of the prices -/
theorem Told.worth (hl : ws.length = n.toNat) (h : Told n.toNat (fulls false n ts) ws d y x) : worthL ws (prT n.toNat d x) = ((List.range n.toNat).map fun p => ws.getD p 0 * x p).map fun a => low a d := by
  unfold worthL prT
  apply List.ext_getElem
  · simp [hl]
  · intro i h1 h2
    rw [List.length_map, List.length_zip, List.length_map, List.length_range] at h1
    simp only [List.getElem_map, List.getElem_zip, List.getElem_range]
    have ew : ws.getD i 0 = ws[i]'(by omega) := by rw [List.getD_eq_getElem?_getD, List.getElem?_eq_getElem (by omega)]; rfl
    rw [ew]
    have hc := low_cross (a := x i) h.dpos
    have hden := low_den (a := x i) h.dpos
    refine low_eq (by omega) h.dpos ?_
    rw [Int.mul_assoc, hc]
    grind
end
local macro_rules
  | `(tactic| sizeOf_list_dec) => `(tactic| with_reducible refine st_emD ?_)
/-- no script or error within, nothing too long: n deep -/
def okB : Nat → D → Bool
  | 0, _ => true
  | n + 1, d => !isLit d && match d with
    | .tuple xs => decide (xs.length ≤ 1000) && xs.all (okB n)
    | _ => true
theorem okB_lit {n : Nat} {d : D} (h : okB (n + 1) d = true) : isLit d = false := by
  unfold okB at h
  simp only [Bool.and_eq_true, Bool.not_eq_true'] at h
  exact h.1
theorem okB_tup {n : Nat} {xs : List D} (h : okB (n + 1) (.tuple xs) = true) : xs.length ≤ 1000 ∧ ∀ x ∈ xs, okB n x = true := by
  unfold okB at h
  simp only [Bool.and_eq_true, Bool.not_eq_true', decide_eq_true_eq, List.all_eq_true] at h
  exact h.2
def wholeB : D → Bool
  | .int _ => true
  | _ => false
def belowB (n : Int) : D → Bool
  | .int z => decide (0 ≤ z ∧ z < n)
  | _ => false
def tieO (n : Int) : D → Bool
  | .tuple [.int a, .int b] => decide ((0 ≤ a ∧ a < n) ∧ (0 ≤ b ∧ b < n) ∧ a < b)
  | _ => false
def adjP : List (Int × Int) → Bool
  | p :: q :: r => ltPr p q && adjP (q :: r)
  | _ => true
def tiesB (n : Int) : D → Bool
  | .tuple ds => ds.all (tieO n) && match pairsOf ds with
    | some ps => adjP ps
    | none => true
  | _ => false
def webB : D → Bool
  | .tuple [.int n, d] => decide (0 ≤ n ∧ n < 11) && tiesB n d
  | _ => false
theorem isT_gen {T : String} {d : D} {k : R → Prop} (hl : isLit d = false) (h : k (.d (.bool (isTy T d)))) : bIs T d k := ⟨hl, h⟩
theorem is_whole_gen {d : D} (hl : isLit d = false) {X : XF} {Q : R → S → Prop} (h : ∀ fin, Q (.d (.bool (wholeB d))) fin) : m_is_whole [.d d] X Q := by
  unfold m_is_whole b_is_whole
  refine st_sem rfl ?_
  refine st_ret ?_
  refine st_andV ?_
  refine st_un ?_
  array_get_dec
  refine isT_gen hl ?_
  cases d with
  | bool b => array_get_dec; exact h _
  | int z => array_get_dec; exact h _
  | _ => array_get_dec; exact h _
theorem is_below_gen {d : D} {m : Int} (hl : isLit d = false) {X : XF} {Q : R → S → Prop} (h : ∀ fin, Q (.d (.bool (belowB m d))) fin) : m_is_below [.d d, .d (.int m)] X Q := by
  by_cases hw : wholeB d = true
  · cases d with
    | int z => exact is_below_ok h
    | _ => cases hw
  · unfold m_is_below b_is_below
    refine st_sem rfl ?_
    array_get_dec
    refine is_whole_gen hl fun fin => ?_
    have e1 : wholeB d = false := by simpa using hw
    have e2 : belowB m d = false := by cases d <;> first | rfl | cases e1
    rw [e1]
    array_get_dec
    rw [e2] at h
    exact h _
theorem is_tie_gen {n : Int} {d : D} (hd : okB 2 d = true) {X : XF} {Q : R → S → Prop} (h : ∀ fin, Q (.d (.bool (tieO n d))) fin) : m_is_tie [.d (.int n), .d d] X Q := by
  unfold m_is_tie b_is_tie
  refine st_sem rfl ?_
  array_get_dec
  refine isT_gen (okB_lit hd) ?_
  cases d with
  | tuple xs =>
    obtain ⟨hl, hx⟩ := okB_tup hd
    array_get_dec
    match xs, hl, hx, h with
    | [], _, _, h => array_get_dec; exact h _
    | [x], _, _, h =>
      have e : tieO n (.tuple [x]) = false := by cases x <;> rfl
      rw [e] at h
      refine st_iteT rfl ?_
      array_get_dec
      exact h _
    | x :: y :: z :: r, hl, _, h =>
      have e : tieO n (.tuple (x :: y :: z :: r)) = false := by cases x <;> cases y <;> rfl
      rw [e] at h
      refine st_iteT (by simp; omega) ?_
      array_get_dec
      exact h _
    | [x, y], _, hx, h =>
      array_get_dec
      refine is_below_gen (okB_lit (hx x (by simp))) fun fin => ?_
      by_cases h1 : belowB n x = true
      · rw [h1]
        cases x with
        | int a =>
          have h1 := of_decide_eq_true h1
          array_get_dec
          refine is_below_gen (okB_lit (hx y (by simp))) fun fin => ?_
          by_cases h2 : belowB n y = true
          · rw [h2]
            cases y with
            | int b =>
              have h2 := of_decide_eq_true h2
              array_get_dec
              have e : tieO n (.tuple [.int a, .int b]) = decide (a < b) := by
                show decide ((0 ≤ a ∧ a < n) ∧ (0 ≤ b ∧ b < n) ∧ a < b) = _
                simp [h1, h2]
              rw [e] at h
              exact h _
            | _ => cases h2
          · have h2 : belowB n y = false := by simpa using h2
            rw [h2]
            have e : tieO n (.tuple [.int a, y]) = false := by
              cases y with
              | int b =>
                have h2 := of_decide_eq_false h2
                exact decide_eq_false fun z => h2 z.2.1
              | _ => rfl
            rw [e] at h
            array_get_dec
            exact h _
        | _ => cases h1
      · have h1 : belowB n x = false := by simpa using h1
        rw [h1]
        have e : tieO n (.tuple [x, y]) = false := by
          cases x with
          | int a =>
            cases y with
            | int b =>
              have h1 := of_decide_eq_false h1
              exact decide_eq_false fun z => h1 z.1
            | _ => rfl
          | _ => rfl
        rw [e] at h
        array_get_dec
        exact h _
  | _ => array_get_dec; exact h _
theorem rangeI_succO {n : Nat} : rangeI (n + 1) = 0 :: (rangeI n).map (· + 1) := by
  unfold rangeI
  rw [List.range_succ_eq_map, List.map_cons, List.map_map, List.map_map]
  congr 1
theorem adj_range : ∀ ts : List (Int × Int), ((rangeI (ts.length - 1)).all fun k => ltPr (ts.getD k.toNat (0, 0)) (ts.getD (k.toNat + 1) (0, 0))) = adjP ts
  | [] => rfl
  | [p] => rfl
  | p :: q :: r => by
    have ih := adj_range (q :: r)
    show ((rangeI (r.length + 1)).all _) = (ltPr p q && adjP (q :: r))
    rw [← ih, rangeI_succO, List.all_cons, List.all_map]
    congr 1
    show _ = ((rangeI r.length).all _)
    rw [Bool.eq_iff_iff, List.all_eq_true, List.all_eq_true]
    constructor
    · intro h k hk
      have := h k hk
      have k0 := (rangeI_mem.mp hk).1
      simp only [Function.comp] at this
      rw [show (k + 1).toNat = k.toNat + 1 by omega] at this
      exact this
    · intro h k hk
      have := h k hk
      have k0 := (rangeI_mem.mp hk).1
      simp only [Function.comp]
      rw [show (k + 1).toNat = k.toNat + 1 by omega]
      exact this
theorem is_rising_gen {ts : List (Int × Int)} (hl : ts.length ≤ 1000) {X : XF} {Q : R → S → Prop} (h : ∀ fin, Q (.d (.bool (adjP ts))) fin) : m_is_rising [.d (.tuple (ts.map pairD))] X Q := by
  unfold m_is_rising b_is_rising
  refine st_sem rfl ?_
  array_get_dec
  rw [List.length_map]
  refine ⟨by unfold lim62; omega, ?_⟩
  array_get_dec
  refine ⟨by rw [rangeD_len]; show _ ≤ 16777216; omega, ?_⟩
  array_get_dec
  rw [rangeD_map, show ((ts.length : Int) - 1).toNat = ts.length - 1 by omega]
  refine comp_list PyData.int (fun k => .bool (ltPr (ts.getD k.toNat (0, 0)) (ts.getD (k.toNat + 1) (0, 0)))) _ (fun k hk kT hkT => ?_) ?_
  · obtain ⟨k0, k1⟩ := rangeI_mem.mp hk
    obtain ⟨t, rfl⟩ := Int.eq_ofNat_of_zero_le k0
    have h1 : t < ts.length := by omega
    have h2 : t + 1 < ts.length := by omega
    have g1 : L2.atI (ts.map pairD) (t : Int) = some (pairD ts[t]) := L2.atI_nat (by rw [List.getElem?_map, List.getElem?_eq_getElem h1]; rfl)
    have g2 : L2.atI (ts.map pairD) ((t : Int) + 1) = some (pairD ts[t + 1]) := L2.atI_nat (j := t + 1) (by rw [List.getElem?_map, List.getElem?_eq_getElem h2]; rfl)
    array_get_dec
    refine st_ix_t g1 ?_
    array_get_dec
    refine st_ix_t g2 ?_
    array_get_dec
    refine st_lt_t (ns := [ts[t].1, ts[t].2]) (ms := [ts[t + 1].1, ts[t + 1].2]) rfl rfl ?_
    rw [lex_pair]
    array_get_dec
    have e1 : ts.getD (t : Int).toNat (0, 0) = ts[t] := by simp [List.getD_eq_getElem?_getD, h1]
    have e2 : ts.getD ((t : Int).toNat + 1) (0, 0) = ts[t + 1] := by simp [List.getD_eq_getElem?_getD, h2]
    rw [e1, e2] at hkT
    exact hkT
  · array_get_dec
    refine st_all_map ?_
    array_get_dec
    rw [adj_range]
    exact h _
theorem pairs_of_ties {n : Int} : ∀ {ds : List D}, ds.all (tieO n) = true → ∃ ps, pairsOf ds = some ps
  | [], _ => ⟨[], rfl⟩
  | d :: ds, h => by
    rw [List.all_cons, Bool.and_eq_true] at h
    obtain ⟨ps, e⟩ := pairs_of_ties h.2
    have h1 := h.1
    unfold tieO at h1
    split at h1
    · rename_i a b
      exact ⟨(a, b) :: ps, by
        show (match pairOf (.tuple [.int a, .int b]), pairsOf ds with | some p, some ps => some (p :: ps) | _, _ => none) = _
        rw [e]; rfl⟩
    · cases h1
theorem are_ties_gen {n : Int} {d : D} (hd : okB 3 d = true) {X : XF} {Q : R → S → Prop} (h : ∀ fin, Q (.d (.bool (tiesB n d))) fin) : m_are_ties [.d (.int n), .d d] X Q := by
  unfold m_are_ties b_are_ties
  refine st_sem rfl ?_
  array_get_dec
  refine isT_gen (okB_lit hd) ?_
  cases d with
  | tuple ds =>
    obtain ⟨hl, hx⟩ := okB_tup hd
    array_get_dec
    refine ⟨by show _ ≤ 16777216; omega, ?_⟩
    array_get_dec
    refine comp_all (fun d => .bool (tieO n d)) _ _ (fun x hx2 kT hkT => ?_) ?_
    · array_get_dec
      refine is_tie_gen (hx x hx2) fun fin => ?_
      array_get_dec
      exact hkT
    · rw [List.nil_append]
      array_get_dec
      refine st_all_map ?_
      unfold tiesB at h
      by_cases ha : ds.all (tieO n) = true
      · obtain ⟨ps, e⟩ := pairs_of_ties ha
        simp only [ha, e, Bool.true_and] at h
        rw [show (ds.all fun d => tieO n d) = true from ha]
        have e2 := pairsOf_eq e
        subst e2
        rw [List.length_map] at hl
        array_get_dec
        refine is_rising_gen hl fun fin => ?_
        array_get_dec
        exact h _
      · have ha : ds.all (tieO n) = false := by simpa using ha
        simp only [ha, Bool.false_and] at h
        rw [show (ds.all fun d => tieO n d) = false from ha]
        array_get_dec
        exact h _
  | _ => array_get_dec; exact h _
theorem is_web_gen {d : D} (hd : okB 4 d = true) {X : XF} {Q : R → S → Prop} (h : ∀ fin, Q (.d (.bool (webB d))) fin) : m_is_web [.d d] X Q := by
  unfold m_is_web b_is_web
  refine st_sem rfl ?_
  array_get_dec
  refine isT_gen (okB_lit hd) ?_
  cases d with
  | tuple xs =>
    obtain ⟨hl, hx⟩ := okB_tup hd
    array_get_dec
    match xs, hl, hx, h with
    | [], _, _, h => array_get_dec; exact h _
    | [x], _, _, h =>
      have e : webB (.tuple [x]) = false := by cases x <;> rfl
      rw [e] at h
      refine st_iteT rfl ?_
      array_get_dec; exact h _
    | x :: y :: z :: r, hl, _, h =>
      refine st_iteT (by simp; omega) ?_
      have e : webB (.tuple (x :: y :: z :: r)) = false := by cases x <;> rfl
      rw [e] at h
      array_get_dec
      exact h _
    | [x, y], _, hx, h =>
      array_get_dec
      refine is_below_gen (okB_lit (hx x (by simp))) fun fin => ?_
      by_cases h1 : belowB 11 x = true
      · rw [show belowB (10 + 1) x = true from h1]
        cases x with
        | int a =>
          array_get_dec
          refine are_ties_gen (hx y (by simp)) fun fin => ?_
          array_get_dec
          have e : webB (.tuple [.int a, y]) = tiesB a y := by
            show (decide (0 ≤ a ∧ a < 11) && tiesB a y) = _
            rw [show decide (0 ≤ a ∧ a < 11) = true from h1, Bool.true_and]
          rw [e] at h
          exact h _
        | _ => cases h1
      · have h1 : belowB 11 x = false := by simpa using h1
        rw [show belowB (10 + 1) x = false from h1]
        have e : webB (.tuple [x, y]) = false := by
          cases x with
          | int a =>
            show (decide (0 ≤ a ∧ a < 11) && tiesB a y) = _
            rw [show decide (0 ≤ a ∧ a < 11) = false from h1, Bool.false_and]
          | _ => rfl
        rw [e] at h
        array_get_dec
        exact h _
  | _ => array_get_dec; exact h _
theorem need_web_no {d : D} (hd : okB 4 d = true) (hw : webB d = false) {X : XF} {Q : R → S → Prop} (h : ∀ fin, X "NoWeb" fin) : m_need_web [.d d] X Q := by
  unfold m_need_web b_need_web
  refine st_sem rfl ?_
  array_get_dec
  refine is_web_gen hd fun fin => ?_
  rw [hw]
  array_get_dec
  exact h _
end Lk51
namespace Lk51
open PySem Hs
local macro_rules
  | `(tactic| sizeOf_list_dec) => `(tactic| first
    | with_reducible refine st_seq ?_ | with_reducible refine st_asg ?_ | with_reducible refine st_cons ?_ | with_reducible refine st_nil ?_ | with_reducible refine st_C ?_ | with_reducible refine st_op ?_
    | with_reducible refine st_var_d ?_ | with_reducible refine st_var_l ?_ | with_reducible refine st_var_ll ?_ | with_reducible refine st_var_dc ?_
    | with_reducible refine st_look_d ?_ | with_reducible refine st_look_top ?_ | with_reducible refine st_look_top_d ?_ | with_reducible refine st_look_own ?_ | with_reducible refine st_look_top_dc ?_ | with_reducible refine st_look_own_dc ?_ | with_reducible refine st_put_d ?_ | with_reducible refine st_put_own ?_ | with_reducible refine st_put_top_l ?_ | with_reducible refine st_put_top_ll ?_ | with_reducible refine st_put_top_dc ?_
    | ((with_reducible refine st_callF ?_ ?_); eq_refl) | with_reducible refine st_call ?_ | with_reducible refine st_putK_nil ?_ | with_reducible refine st_putK_t ?_ | with_reducible refine st_putK_f ?_ | with_reducible refine st_putK_td ?_ | with_reducible refine st_putK_to ?_ | with_reducible refine st_bind_nil ?_ | with_reducible refine st_bind_f ?_ | with_reducible refine st_bind_tt ?_ | with_reducible refine st_bind_td ?_ | with_reducible refine st_bind_to ?_
    | with_reducible refine st_frz_d ?_ | with_reducible refine st_frz_own ?_ | with_reducible refine st_frz_top ?_ | with_reducible refine st_frz_own_ll ?_ | with_reducible refine st_frz_own_dc ?_ | with_reducible refine st_frz_top_ll ?_ | with_reducible refine st_frz_top_dc ?_ | with_reducible refine st_frzAll_nil ?_ | with_reducible refine st_frzAll_cons ?_
    | with_reducible refine st_if ?_ | with_reducible refine st_B ?_ | with_reducible refine st_and ?_ | with_reducible refine st_or ?_ | with_reducible refine st_not ?_ | with_reducible refine st_yes ?_ | with_reducible refine st_isB ?_ | with_reducible refine st_t ?_ | with_reducible refine st_f ?_ | ((with_reducible refine st_iteT ?_ ?_); decide) | ((with_reducible refine st_iteF ?_ ?_); decide)
    | with_reducible refine st_nt ?_ | with_reducible refine st_nf ?_
    | with_reducible refine st_ret ?_ | with_reducible refine st_next ?_ | with_reducible refine st_retN ?_ | with_reducible refine st_drop ?_ | with_reducible refine st_break ?_ | with_reducible refine st_raise ?_
    | with_reducible refine st_out_d ?_ | with_reducible refine st_out_own ?_ | with_reducible refine st_out_top ?_
    | with_reducible refine st_tup ?_ | with_reducible refine st_lst ?_ | with_reducible refine st_un ?_ | with_reducible refine st_blt ?_ | with_reducible refine st_lookAll_nil ?_ | with_reducible refine st_lookAll_cons ?_
    | with_reducible refine st_unp ?_ | with_reducible refine st_par ?_ | with_reducible refine st_setIx ?_ | with_reducible refine st_onL ?_ | with_reducible refine st_for ?_ | with_reducible refine st_wipe_nil ?_ | with_reducible refine st_wipe_cons ?_ | with_reducible refine st_andV ?_ | with_reducible refine st_orV ?_ | with_reducible refine st_notV ?_ | with_reducible refine st_ifE ?_ | with_reducible refine st_chain ?_
    | with_reducible refine st_sl ?_ | with_reducible refine st_noPart ?_ | with_reducible refine st_part ?_ | with_reducible refine st_lc ?_ | with_reducible refine st_lm ?_
    | with_reducible refine st_seqI ?_ | with_reducible refine st_range1 ?_ | with_reducible refine st_range2 ?_ | with_reducible refine st_enum ?_ | with_reducible refine st_zip ?_
    | with_reducible refine st_nm ?_ | with_reducible refine st_tp ?_ | with_reducible refine st_tps_nil ?_ | with_reducible refine st_tps_cons ?_
    | ((with_reducible refine st_mod_i ?_ ?_); (first | decide | omega)) | ((with_reducible refine st_fdiv_i ?_ ?_); decide) 
    | with_reducible refine st_add_i ?_ | with_reducible refine st_sub_i ?_ | with_reducible refine st_neg_i ?_ | with_reducible refine st_eq_i ?_ | with_reducible refine st_ne_i ?_ | with_reducible refine st_eq_str ?_ | with_reducible refine st_ne_str ?_ | with_reducible refine st_eq_b ?_ | with_reducible refine st_ne_b ?_ | with_reducible refine st_lt_i ?_ | with_reducible refine st_le_i ?_ | with_reducible refine st_gt_i ?_ | with_reducible refine st_ge_i ?_
    | with_reducible refine st_is_n ?_ | with_reducible refine st_isNot_n ?_ | with_reducible refine st_is_b ?_ | with_reducible refine st_isNot_b ?_ | ((with_reducible refine st_ix_l (x := ?_) ?_ ?_); rotate_left; eq_refl) | ((with_reducible refine st_ix_t (x := ?_) ?_ ?_); rotate_left; eq_refl) | with_reducible refine st_len_l ?_ | with_reducible refine st_len_t ?_ | with_reducible refine st_len_lit ?_
    | with_reducible refine st_abs ?_ | with_reducible refine st_max2 ?_ | with_reducible refine st_min2 ?_ | with_reducible refine st_int_i ?_ | with_reducible refine st_int_b ?_ | with_reducible refine st_tuple_l ?_ | with_reducible refine st_tuple_t ?_ | with_reducible refine st_list_l ?_ | with_reducible refine st_list_t ?_ | ((with_reducible refine st_isT ?_ ?_); eq_refl) | ((with_reducible refine st_isTT ?_ ?_); eq_refl) | ((with_reducible refine st_isTF ?_ ?_); eq_refl) | ((with_reducible refine st_isNT ?_ ?_); eq_refl) | ((with_reducible refine st_isNF ?_ ?_); eq_refl)
    | with_reducible refine st_rg1 ?_ | with_reducible refine st_rg2 ?_ | with_reducible refine st_enumL ?_ | with_reducible refine st_zipS ?_ | with_reducible refine st_rev_l ?_ | with_reducible refine st_rev_t ?_
    | with_reducible refine st_ne_ll ?_ | with_reducible refine st_ne_lit ?_ | with_reducible refine st_in_pt ?_ | with_reducible refine st_in_pl ?_
    | with_reducible refine st_sl_l ?_ | with_reducible refine st_sl_t ?_
    | ((with_reducible refine st_iteLen ?_ ?_); eq_refl) | ((with_reducible refine st_iteNLen ?_ ?_); eq_refl) | with_reducible refine st_iteBB ?_ | ((with_reducible refine st_iteND ?_ ?_); omega) | ((with_reducible refine st_iteNF ?_ ?_); omega)
    | ((with_reducible refine st_iteT (decide_eq_true ?_) ?_); omega) | ((with_reducible refine st_iteF (decide_eq_false ?_) ?_); omega))
local macro_rules
  | `(tactic| sizeOf_list_dec) => `(tactic| with_reducible refine stepTo ?_)
local macro_rules
  | `(tactic| array_get_dec) => `(tactic| repeat sizeOf_list_dec)
local macro_rules
  | `(tactic| sizeOf_list_dec) => `(tactic| first | with_reducible refine st_ix2_l ?_ | with_reducible refine st_ix2_t ?_ | with_reducible refine st_ix2_s ?_ | with_reducible refine st_ix2_lit ?_ | with_reducible refine st_inK_l ?_ | with_reducible refine st_inK_t ?_ | with_reducible refine st_ninK_l ?_ | with_reducible refine st_ninK_t ?_ | with_reducible refine st_setD ?_ | with_reducible refine st_onDc ?_ | with_reducible refine st_dget2 ?_ | with_reducible refine st_emT ?_ | with_reducible refine st_emD ?_ | with_reducible refine st_disp1 ?_ | with_reducible refine st_disp1k ?_ | with_reducible refine st_range3 ?_ | with_reducible refine st_bor ?_ | with_reducible refine st_borT ?_ | with_reducible refine st_bindT_nil ?_ | with_reducible refine st_bindT_d ?_ | with_reducible refine st_bindT_o ?_ | with_reducible refine st_bindT_t ?_ | with_reducible refine st_toPs_nil ?_ | with_reducible refine st_toPs_d ?_ | with_reducible refine st_toPs_l ?_ | with_reducible refine st_toPs_dc ?_ | with_reducible refine st_tupO ?_ | with_reducible refine st_var_tp ?_ | with_reducible refine st_frz_own_tp ?_ | with_reducible refine st_frz_top_tp ?_ | with_reducible refine st_lmP ?_ | ((with_reducible refine st_onP ?_ ?_); eq_refl) | with_reducible refine st_flat_b ?_ | with_reducible refine st_flat_i ?_)
local macro_rules
  | `(tactic| sizeOf_list_dec) => `(tactic| first | with_reducible refine st_fld_d ?_ | with_reducible refine st_fld_ob ?_ | with_reducible refine st_var_ob ?_ | with_reducible refine st_toPV_d ?_ | with_reducible refine st_toPV_l ?_ | with_reducible refine st_toPV_top_l ?_ | ((with_reducible refine st_obSet ?_ ?_); (exact Nat.le_of_ble_eq_true rfl)) | with_reducible refine st_setF ?_ | with_reducible refine st_setFI ?_ | with_reducible refine st_lmF ?_ | with_reducible refine st_meth_ob ?_ | with_reducible refine st_meth_d ?_ | with_reducible refine st_make ?_ | with_reducible refine st_mkK ?_ | with_reducible refine st_ixP ?_ | with_reducible refine st_zipM ?_)
local macro_rules
  | `(tactic| sizeOf_list_dec) => `(tactic| first | ((with_reducible refine st_gFld ?_ ?_); (exact Nat.le_of_ble_eq_true rfl)) | with_reducible refine st_par3 ?_ | with_reducible refine st_par3K ?_ | with_reducible refine st_lmT ?_ | with_reducible refine st_onOwnL ?_ | with_reducible refine st_onDs_nil ?_ | with_reducible refine st_onDs_cons ?_ | with_reducible refine st_clearT ?_)
local macro_rules
  | `(tactic| sizeOf_list_dec) => `(tactic| first | ((with_reducible refine st_isX (b := false) ?_ ?_); (decide +kernel)) | ((with_reducible refine st_isX (b := true) ?_ ?_); (decide +kernel)) | with_reducible refine st_try ?_)
local macro_rules
  | `(tactic| sizeOf_list_dec) => `(tactic| with_reducible refine is_whole_ok fun _ => ?_)
local macro_rules
  | `(tactic| sizeOf_list_dec) => `(tactic| first | with_reducible refine st_in_il ?_ | with_reducible refine st_in_it ?_ | with_reducible refine st_notIn_il ?_ | with_reducible refine st_notIn_it ?_ | with_reducible refine st_ne_ll ?_)
local macro_rules
  | `(tactic| sizeOf_list_dec) => `(tactic| first | with_reducible refine st_lcK ?_ | with_reducible refine st_rowOf ?_)
def laidP (n : Int) (ts : List (Int × Int)) (L : Lay) : Prop := ∀ e ∈ L, (∀ z ∈ e.1, z < n) ∧ AgB ts false e.1
/-- a laying as a Sharing may hold it, of whatever web -/
structure LayG (L : Lay) : Prop where
  set : ∀ e ∈ L, Set' 10 e.1
  num : ∀ e ∈ L, 0 < e.2.1 ∧ 0 < e.2.2 ∧ low e.2.1 e.2.2 = e.2
  sm : ∀ e ∈ L, Sm e.2
  den : ∀ e ∈ L, e.2.2 ≤ 1000000000
  up : L.Pairwise fun a b => lexL a.1 b.1 = true
  few : L.length ≤ 1024
  sums : ∀ i, Sm (sumF ((L.map (·.2)).take i))
  sumsP : ∀ (p : Nat) (i : Nat), Sm (sumF ((atP L p).take i))
theorem LayG.short {L : Lay} (h : LayG L) {e : List Int × (Int × Int)} (he : e ∈ L) : e.1.length ≤ 10 := (h.set e he).few (by decide)
theorem is_laid_ok {n : Int} {ts : List (Int × Int)} {L : Lay} (hL : LayG L) {X : XF} {Q : R → S → Prop} (h : ∀ fin, Q (.d (.bool (dec (laidP n ts L)))) fin) : m_is_laid [.d (webD n ts), .d (.list (L.map entD))] X Q := by
  unfold m_is_laid b_is_laid
  refine st_sem rfl ?_
  array_get_dec
  refine loop_list entD (fun l s => ∃ done, L = done ++ l ∧ laidP n ts done ∧ s = [.d (webD n ts), .d (.list (L.map entD)), .no, .no, .no, .no, .no, .no]) ?_ ?_ _ _ ⟨[], rfl, fun _ h => (nomatch h), rfl⟩
  · rintro s ⟨done, e, hd, rfl⟩
    rw [List.append_nil] at e
    subst e
    rw [dec_t hd] at h
    array_get_dec
    exact h _
  · rintro ⟨K, f⟩ l s k ⟨done, e, hd, rfl⟩ hk
    have hin : (K, f) ∈ L := by rw [e]; simp
    have sh := hL.short hin
    dsimp only at sh
    have bad : ¬ ((∀ z ∈ K, z < n) ∧ AgB ts false K) → ∀ fin, Q (.d (.bool false)) fin := fun hb fin => by
      have hf := h fin
      rw [dec_f (fun hp => hb (hp _ hin))] at hf
      exact hf
    rw [show entD (K, f) = PyData.tuple [.tuple (K.map .int), pairD f] from rfl]
    array_get_dec
    refine ⟨by rw [List.length_map]; show _ ≤ 16777216; omega, ?_⟩
    array_get_dec
    refine comp_list PyData.int (fun z => .bool (decide (z < n))) _ (fun z hz kT hkT => ?_) ?_
    · array_get_dec
      exact hkT
    array_get_dec
    refine st_all_map ?_
    array_get_dec
    refine st_ite (fun c => ?_) (fun c => ?_)
    · array_get_dec
      refine bad (fun hb => ?_) _
      rw [Bool.not_eq_true'] at c
      rw [List.all_eq_true.mpr fun z hz => decide_eq_true (hb.1 z hz)] at c
      cases c
    · have c : ∀ z ∈ K, z < n := fun z hz => by
        rw [Bool.not_eq_false'] at c
        exact of_decide_eq_true (List.all_eq_true.mp c z hz)
      array_get_dec
      rw [enum_ints']
      refine loop_nat (fun i s => AgB ts false (K.take i) ∧ s = [.d (webD n ts), .d (.list (L.map entD)), .d (.tuple (K.map .int)), .d (pairD f), .no, .no, .no, .no]) ?_ ?_ ⟨.nil, rfl⟩
      · rintro s ⟨hA, rfl⟩
        rw [List.take_length] at hA
        array_get_dec
        refine hk _ ⟨done ++ [(K, f)], by rw [e]; simp, fun e' he' => ?_, rfl⟩
        rcases List.mem_append.mp he' with he' | he'
        · exact hd e' he'
        · rw [List.mem_singleton.mp he']
          exact ⟨c, hA⟩
      · rintro i s kk hi ⟨hA, rfl⟩ hkk
        array_get_dec
        rw [cut_to]
        array_get_dec
        refine ⟨by rw [List.length_map, List.length_take]; show _ ≤ 16777216; omega, ?_⟩
        array_get_dec
        refine comp_list PyData.int (fun z => .bool (Tb ts (atZ K (i : Int)) z)) _ (fun z hz kT hkT => ?_) ?_
        · array_get_dec
          refine tied_in_ok fun fin => ?_
          array_get_dec
          exact hkT
        array_get_dec
        refine st_any_map ?_
        array_get_dec
        have hg : K[i]? = some (atZ K (i : Int)) := by
          rw [List.getElem?_eq_getElem hi]
          show _ = some (K.getD (i : Int).toNat 0)
          rw [List.getD_eq_getElem?_getD, Int.toNat_natCast, List.getElem?_eq_getElem hi]; rfl
        refine st_ite (fun q => ?_) (fun q => ?_)
        · array_get_dec
          refine bad (fun hb => ?_) _
          obtain ⟨z, hz, hzt⟩ := List.any_eq_true.mp q
          have s1 : K.take (i + 1) = K.take i ++ [atZ K (i : Int)] := by rw [List.take_add_one, hg]; rfl
          have hp := List.Pairwise.sublist (List.take_sublist (i + 1) K) hb.2
          rw [s1] at hp
          have := (List.pairwise_append.mp hp).2.2 z hz _ (List.mem_singleton.mpr rfl)
          rw [Tb_symm] at this
          rw [this] at hzt
          cases hzt
        · array_get_dec
          refine hkk _ ⟨?_, rfl⟩
          have s1 : K.take (i + 1) = K.take i ++ [atZ K (i : Int)] := by rw [List.take_add_one, hg]; rfl
          rw [s1]
          refine List.pairwise_append.mpr ⟨hA, List.pairwise_singleton _ _, fun a ha b hb => ?_⟩
          rw [List.mem_singleton.mp hb, Tb_symm]
          exact Bool.eq_false_iff.mpr fun ht => by
            have : ((K.take i).any fun z => Tb ts (atZ K (i : Int)) z) = true := List.any_eq_true.mpr ⟨a, ha, ht⟩
            rw [this] at q
            cases q
theorem sum_at_ok {L : Lay} (hL : LayG L) {p : Nat} {X : XF} {Q : R → S → Prop} (h : ∀ fin, Q (.d (pairD (sumF (atP L p)))) fin) : m_sum_at [.d (.list (L.map entD)), .d (.int p)] X Q := by
  unfold m_sum_at b_sum_at
  refine st_sem rfl ?_
  array_get_dec
  refine loop_list entD (fun l s => ∃ done, L = done ++ l ∧ s = [.d (.list (L.map entD)), .d (.int p), .d (pairD (sumF (atP done p))), .no, .no]) ?_ ?_ _ _ ⟨[], rfl, rfl⟩
  · rintro s ⟨done, e, rfl⟩
    rw [List.append_nil] at e
    subst e
    array_get_dec
    exact h _
  · rintro ⟨K, f⟩ l s k ⟨done, e, rfl⟩ hk
    have hin : (K, f) ∈ L := by rw [e]; simp
    have sf : Sm f := hL.sm _ hin
    have sd : Sm (sumF (atP done p)) := by
      have := hL.sumsP p (atP done p).length
      rw [e] at this
      unfold atP at this ⊢
      rw [List.filter_append, List.map_append, List.take_left] at this
      exact this
    have e1 : atP (done ++ [(K, f)]) p = atP done p ++ if (p : Int) ∈ K then [f] else [] := by
      unfold atP
      rw [List.filter_append, List.map_append]
      congr 1
      by_cases c : (p : Int) ∈ K
      · rw [if_pos c, List.filter_cons_of_pos (by simpa using c)]; rfl
      · rw [if_neg c, List.filter_cons_of_neg (by simpa using c)]; rfl
    rw [show entD (K, f) = PyData.tuple [.tuple (K.map .int), pairD f] from rfl]
    array_get_dec
    refine st_ite (fun c => ?_) (fun c => ?_)
    · have c := of_decide_eq_true c
      rw [if_pos c] at e1
      array_get_dec
      refine plusS_ok sd sf fun fin => ?_
      array_get_dec
      refine hk _ ⟨done ++ [(K, f)], by rw [e]; simp, ?_⟩
      rw [e1, sumF_snoc]; rfl
    · have c := of_decide_eq_false c
      rw [if_neg c, List.append_nil] at e1
      array_get_dec
      refine hk _ ⟨done ++ [(K, f)], by rw [e]; simp, ?_⟩
      rw [e1]; rfl
theorem sum_sharing_ok {L : Lay} (hL : LayG L) {X : XF} {Q : R → S → Prop} (h : ∀ fin, Q (.d (pairD (sumF (L.map (·.2))))) fin) : m_sum_of_sharing [.d (.list (L.map entD))] X Q := by
  unfold m_sum_of_sharing b_sum_of_sharing
  refine st_sem rfl ?_
  array_get_dec
  refine loop_list entD (fun l s => ∃ done, L = done ++ l ∧ s = [.d (.list (L.map entD)), .d (pairD (sumF (done.map (·.2)))), .no, .no]) ?_ ?_ _ _ ⟨[], rfl, rfl⟩
  · rintro s ⟨done, e, rfl⟩
    rw [List.append_nil] at e
    subst e
    array_get_dec
    exact h _
  · rintro ⟨K, f⟩ l s k ⟨done, e, rfl⟩ hk
    have hin : (K, f) ∈ L := by rw [e]; simp
    have sf : Sm f := hL.sm _ hin
    have sd : Sm (sumF (done.map (·.2))) := by
      have := hL.sums (done.map (·.2)).length
      rw [e, List.map_append, List.take_left] at this
      exact this
    rw [show entD (K, f) = PyData.tuple [.tuple (K.map .int), pairD f] from rfl]
    array_get_dec
    refine plusS_ok sd sf fun fin => ?_
    array_get_dec
    refine hk _ ⟨done ++ [(K, f)], by rw [e]; simp, ?_⟩
    rw [List.map_append]
    show _ = [_, SV.d (pairD (sumF (List.map (·.2) done ++ [f]))), _, _]
    rw [sumF_snoc]; rfl
/-- enough for all places of the web -/
def metP (n : Int) (L : Lay) : Prop := ∀ p : Nat, (p : Int) < n → (sumF (atP L p)).2 ≤ (sumF (atP L p)).1
def goodP (n : Int) (ts : List (Int × Int)) (v : Int × Int) (L : Lay) : Prop := laidP n ts L ∧ sumF (L.map (·.2)) = v ∧ metP n L
theorem still_good_ok {n : Int} {ts : List (Int × Int)} {v : Int × Int} {L : Lay} (g : Good n ts) (hL : LayG L) {X : XF} {Q : R → S → Prop} (h : ∀ fin, Q (.d (.bool (dec (goodP n ts v L)))) fin) : m_still_good [.d (webD n ts), .d (.list (L.map entD)), .d (pairD v)] X Q := by
  have n0 := g.n0
  have n10 := g.n10
  unfold m_still_good b_still_good
  refine st_sem rfl ?_
  array_get_dec
  refine is_laid_ok hL fun fin => ?_
  array_get_dec
  by_cases h1 : laidP n ts L
  · rw [dec_t h1]
    array_get_dec
    refine sum_sharing_ok hL fun fin => ?_
    array_get_dec
    refine st_ne_pp ?_
    array_get_dec
    by_cases h2 : sumF (L.map (·.2)) = v
    · rw [decide_eq_true h2]
      array_get_dec
      refine ⟨⟨by omega, by omega⟩, ?_⟩
      array_get_dec
      refine ⟨by simp [rangeD]; show _ ≤ 16777216; omega, ?_⟩
      rw [show rangeD 0 n.toNat = (List.range n.toNat).map fun (k : Nat) => PyData.int (k : Int) by unfold rangeD; exact List.map_congr_left fun k _ => by simp]
      array_get_dec
      refine comp_list (fun k : Nat => PyData.int (k : Int)) (fun k : Nat => .bool (decide ((sumF (atP L k)).1 < (sumF (atP L k)).2))) _ (fun p hp kT hkT => ?_) ?_
      · array_get_dec
        refine sum_at_ok hL fun fin => ?_
        array_get_dec
        have s0 := hL.sumsP p (atP L p).length
        rw [List.take_length] at s0
        refine is_less_ok (q := (1, 1)) s0 (sm_int (by decide) (by decide)) fun fin => ?_
        array_get_dec
        rw [Int.mul_one, Int.one_mul]
        exact hkT
      · array_get_dec
        refine st_any_map ?_
        array_get_dec
        have e : (!(List.range n.toNat).any fun k : Nat => decide ((sumF (atP L k)).1 < (sumF (atP L k)).2)) = dec (goodP n ts v L) := by
          by_cases h3 : metP n L
          · rw [dec_t ⟨h1, h2, h3⟩, Bool.not_eq_true', List.any_eq_false]
            intro k hk
            have := h3 k (by have := List.mem_range.mp hk; omega)
            simp
            omega
          · rw [dec_f (fun q => h3 q.2.2), Bool.not_eq_false', List.any_eq_true]
            unfold metP at h3
            simp only [Classical.not_forall] at h3
            obtain ⟨p, hp, hq⟩ := h3
            exact ⟨p, List.mem_range.mpr (by omega), by simp; omega⟩
        rw [e]
        exact h _
    · rw [decide_eq_false h2]
      array_get_dec
      rw [dec_f (fun q => h2 q.2.1)] at h
      exact h _
  · rw [dec_f h1]
    array_get_dec
    rw [dec_f (fun q => h1 q.1)] at h
    exact h _
theorem st_sort_pt {ps : List (Int × Int)} (hne : ps ≠ []) {k : R → Prop} (h : ∀ qs : List (Int × Int), qs.Perm ps → qs.Pairwise (fun p q => ltPr q p = false) → k (.own (.l (qs.map pairD)))) : bSorted [.tuple (ps.map pairD)] k := by
  have e : intsOf (ps.map pairD) = none := by
    cases ps with
    | nil => exact (hne rfl).elim
    | cons p r => rfl
  show (match intsOf (ps.map pairD) with
    | some ns => ∀ ms : List Int, ms.Perm ns → ms.Pairwise (· ≤ ·) → k (.own (.l (ms.map .int)))
    | none => bSortPT [.tuple (ps.map pairD)] k)
  rw [e]
  show (match pairsOf (ps.map pairD) with
    | some ps => ∀ qs : List (Int × Int), qs.Perm ps → qs.Pairwise (fun p q => ltPr q p = false) → k (.own (.l (qs.map pairD)))
    | none => False)
  rw [pairsOf_map']
  exact h
def ones (n : Int) : List Int := (rangeI n.toNat).map fun _ => 1
theorem ones_len {n : Int} : (ones n).length = n.toNat := by unfold ones; rw [List.length_map, rangeI_len]
theorem ones_w {n : Int} : ∀ w ∈ ones n, 0 ≤ w ∧ w ≤ 99 := fun w hw => by
  obtain ⟨_, _, rfl⟩ := List.mem_map.mp hw
  exact ⟨by decide, by decide⟩
theorem ones_at {n : Int} {p : Nat} (h : p < n.toNat) : (ones n).getD p 0 = 1 := by
  unfold ones rangeI
  rw [List.getD_eq_getElem?_getD, List.map_map, List.getElem?_map, List.getElem?_range h]; rfl
theorem ones_rep {n : Int} : (List.replicate n.toNat [PyData.int 1]).flatten = (ones n).map .int := by
  unfold ones rangeI
  generalize n.toNat = m
  rw [List.map_map, List.map_map]
  induction m with
  | zero => rfl
  | succ m ih => rw [List.replicate_succ', List.flatten_append, ih, List.range_succ, List.map_append]; rfl
abbrev shO (n : Int) (ts : List (Int × Int)) (c : Int) (v : Int × Int) (L : Lay) (C : List (Int × Int)) : SV :=
  .ob "Sharing" [("now", .d (webD n ts)), ("count", .d (.int c)), ("least", .d (pairD v)), ("laid", .d (.list (L.map entD))), ("costs", .d (.list (C.map pairD)))]
structure ShOk (n : Int) (ts : List (Int × Int)) (v : Int × Int) (L : Lay) (C : List (Int × Int)) : Prop where
  g : Good n ts
  lay : LayG L
  good : goodP n ts v L
  told : ∃ d y x, Told n.toNat (fulls false n ts) (ones n) d y x ∧ v = low (LP.sm (fulls false n ts).length y) d ∧ C = prT n.toNat d x
section
variable {n : Int} {ts : List (Int × Int)} {d : Int} {y x : Nat → Int}
theorem Told.layG (g : Good n ts) (h : Told n.toNat (fulls false n ts) (ones n) d y x) : LayG (layT (fulls false n ts) d y (fulls false n ts).length) := by
  have lo := h.lay g
  refine ⟨fun e he => ⟨(lo.set e he).up, fun z hz => by have := (lo.set e he).lt z hz; have := g.n10; omega⟩, fun e he => ?_, lo.sm, fun e he => (lo.den e he).2, lo.up, lo.few, fun i => h.sm3 g i, fun p i => h.sm2 g p i⟩
  obtain ⟨i, hi, rfl, _⟩ := layT_mem he
  have h1 := lo.num _ he
  have h2 := (lo.den _ he).1
  exact ⟨h1, by omega, low_low h.dpos⟩
theorem Told.goodP (g : Good n ts) (h : Told n.toNat (fulls false n ts) (ones n) d y x) : goodP n ts (low (LP.sm (fulls false n ts).length y) d) (layT (fulls false n ts) d y (fulls false n ts).length) := by
  have lo := h.lay g
  refine ⟨fun e he => ⟨fun z hz => ((lo.set e he).lt z hz).2, lo.ap e he⟩, h.total g, fun p hp => ?_⟩
  have hp' : p < n.toNat := by omega
  have := h.meets g hp'
  rw [ones_at hp', Int.one_mul] at this
  exact this
theorem Told.shOk (g : Good n ts) (h : Told n.toNat (fulls false n ts) (ones n) d y x) : ShOk n ts (low (LP.sm (fulls false n ts).length y) d) (layT (fulls false n ts) d y (fulls false n ts).length) (prT n.toNat d x) :=
  ⟨g, h.layG g, h.goodP g, d, y, x, h, rfl, rfl⟩
end
theorem sh_init_ok {n : Int} {ts : List (Int × Int)} (g : Good n ts) {X : XF} {Q : R → S → Prop} (h : ∀ v L C, ShOk n ts v L C → Q (.d .none) [shO n ts 0 v L C, .d (webD n ts)]) : m_Sharing_init [.ob "Sharing" [], .d (webD n ts)] X Q := by
  have n0 := g.n0
  have n10 := g.n10
  unfold m_Sharing_init b_Sharing_init
  refine st_sem rfl ?_
  array_get_dec
  refine need_web_ok g fun fin => ?_
  array_get_dec
  refine st_mul_t (by simp) (by omega) (by omega) (by simp) ?_
  rw [ones_rep]
  array_get_dec
  refine shares_in_told g ones_len ones_w (fulls_cov g) fun d y x fin t => ?_
  array_get_dec
  exact h _ _ _ (t.shOk g)
theorem sh_change_ok {n m : Int} {ts us : List (Int × Int)} {c : Int} {v : Int × Int} {L : Lay} {C : List (Int × Int)} (g : Good m us) (hL : LayG L) {X : XF} {Q : R → S → Prop}
    (h : ∀ v' L' C' c', ShOk m us v' L' C' → (goodP m us v' L → L' = L ∧ c' = c) → (¬ goodP m us v' L → c' = c + 1) → Q (.d .none) [shO m us c' v' L' C', .d (webD m us)]) : m_Sharing_change [shO n ts c v L C, .d (webD m us)] X Q := by
  have n0 := g.n0
  have n10 := g.n10
  unfold shO
  unfold m_Sharing_change b_Sharing_change
  refine st_sem rfl ?_
  array_get_dec
  refine st_mul_t (by simp) (by omega) (by omega) (by simp) ?_
  rw [ones_rep]
  array_get_dec
  refine shares_in_told g ones_len ones_w (fulls_cov g) fun d y x fin t => ?_
  array_get_dec
  refine still_good_ok g hL fun fin => ?_
  array_get_dec
  have ok := t.shOk g
  refine st_ite (fun q => ?_) (fun q => ?_)
  · have q : ¬ goodP m us (low (LP.sm (fulls false m us).length y) d) L := fun hg => by rw [dec_t hg] at q; cases q
    array_get_dec
    exact h _ _ _ _ ok (fun hg => absurd hg q) fun _ => rfl
  · have q : goodP m us (low (LP.sm (fulls false m us).length y) d) L := by
      refine Classical.byContradiction fun hg => ?_
      rw [dec_f hg] at q
      cases q
    array_get_dec
    exact h _ L _ c ⟨g, hL, q, ok.told⟩ (fun _ => ⟨rfl, rfl⟩) fun hg => absurd q hg
section
variable {n : Int} {ts : List (Int × Int)} {c : Int} {v : Int × Int} {L : Lay} {C : List (Int × Int)}
theorem sh_web_ok {X : XF} {Q : R → S → Prop} (h : Q (.d (webD n ts)) [shO n ts c v L C]) : m_Sharing_web [shO n ts c v L C] X Q := by
  unfold shO at *
  unfold m_Sharing_web b_Sharing_web
  refine st_sem rfl ?_
  array_get_dec
  exact h
theorem sh_value_ok {X : XF} {Q : R → S → Prop} (h : Q (.d (pairD v)) [shO n ts c v L C]) : m_Sharing_value [shO n ts c v L C] X Q := by
  unfold shO at *
  unfold m_Sharing_value b_Sharing_value
  refine st_sem rfl ?_
  array_get_dec
  exact h
theorem sh_again_ok {X : XF} {Q : R → S → Prop} (h : Q (.d (.int c)) [shO n ts c v L C]) : m_Sharing_again [shO n ts c v L C] X Q := by
  unfold shO at *
  unfold m_Sharing_again b_Sharing_again
  refine st_sem rfl ?_
  array_get_dec
  exact h
theorem sh_laying_ok {X : XF} {Q : R → S → Prop} (h : Q (.own (.l (L.map entD))) [shO n ts c v L C]) : m_Sharing_laying [shO n ts c v L C] X Q := by
  unfold shO at *
  unfold m_Sharing_laying b_Sharing_laying
  refine st_sem rfl ?_
  array_get_dec
  exact h
end
inductive Deed where
  | put (S : List Int) | drop | tie (i j : Int) | untie (i j : Int)
def Deed.D : Deed → PyData
  | .put S => .tuple [.str "put", tupI S]
  | .drop => .tuple [.str "drop"]
  | .tie i j => .tuple [.str "tie", .int i, .int j]
  | .untie i j => .tuple [.str "untie", .int i, .int j]
abbrev prI (i j : Int) : Int × Int := (min i j, max i j)
inductive Step (n : Int) (ts : List (Int × Int)) : Deed → Int → List (Int × Int) → Prop
  | put {S : List Int} {us : List (Int × Int)} : Set' n S → n ≤ 9 → Up us → (∀ p, p ∈ us ↔ p ∈ ts ∨ p.1 ∈ S ∧ p.2 = n) → Step n ts (.put S) (n + 1) us
  | drop : 0 < n → Step n ts .drop (n - 1) (ts.filter fun p => decide (p.2 ≠ n - 1))
  | tie {i j : Int} {us : List (Int × Int)} : 0 ≤ i → i < n → 0 ≤ j → j < n → i ≠ j → prI i j ∉ ts → Up us → (∀ p, p ∈ us ↔ p ∈ ts ∨ p = prI i j) → Step n ts (.tie i j) n us
  | untie {i j : Int} : 0 ≤ i → i < n → 0 ≤ j → j < n → i ≠ j → prI i j ∈ ts → Step n ts (.untie i j) n (ts.filter fun p => decide (p ≠ prI i j))
theorem Step.good {n m : Int} {ts us : List (Int × Int)} {e : Deed} (g : Good n ts) (h : Step n ts e m us) : Good m us := by
  have n0 := g.n0
  have n10 := g.n10
  have few : ∀ {m : Int} {us : List (Int × Int)}, m ≤ 10 → Up us → (∀ p ∈ us, 0 ≤ p.1 ∧ p.1 < p.2 ∧ p.2 < m) → us.length ≤ 1000 := fun hm up ok => Nat.le_trans (up_few up fun p hp => by have := ok p hp; omega) (by decide)
  cases h with
  | put hs h9 up mem =>
    have ok : ∀ p ∈ us, 0 ≤ p.1 ∧ p.1 < p.2 ∧ p.2 < n + 1 := fun p hp => by
      rcases (mem p).mp hp with q | ⟨q1, q2⟩
      · have := g.ties p q; omega
      · have := hs.lt _ q1; omega
    exact ⟨by omega, by omega, ok, up, few (by omega) up ok⟩
  | drop h0 =>
    have ok : ∀ p ∈ ts.filter (fun p => decide (p.2 ≠ n - 1)), 0 ≤ p.1 ∧ p.1 < p.2 ∧ p.2 < n - 1 := fun p hp => by
      obtain ⟨h1, h2⟩ := List.mem_filter.mp hp
      have := g.ties p h1
      have h2 := of_decide_eq_true h2
      omega
    exact ⟨by omega, by omega, ok, List.Pairwise.filter _ g.up, few (by omega) (List.Pairwise.filter _ g.up) ok⟩
  | tie i0 i1 j0 j1 ne no up mem =>
    have ok : ∀ p ∈ us, 0 ≤ p.1 ∧ p.1 < p.2 ∧ p.2 < n := fun p hp => by
      rcases (mem p).mp hp with q | q
      · exact g.ties p q
      · rw [q]
        dsimp only [prI]
        omega
    exact ⟨n0, n10, ok, up, few n10 up ok⟩
  | @untie i j i0 i1 j0 j1 ne yes =>
    have ok : ∀ p ∈ ts.filter (fun p => decide (p ≠ prI i j)), 0 ≤ p.1 ∧ p.1 < p.2 ∧ p.2 < n := fun p hp => g.ties p (List.mem_filter.mp hp).1
    exact ⟨n0, n10, ok, List.Pairwise.filter _ g.up, few n10 (List.Pairwise.filter _ g.up) ok⟩
structure Aft (c : Int) (L : Lay) (m : Int) (us : List (Int × Int)) (c' : Int) (v' : Int × Int) (L' : Lay) (C' : List (Int × Int)) : Prop where
  ok : ShOk m us v' L' C'
  stay : goodP m us v' L → L' = L ∧ c' = c
  anew : ¬ goodP m us v' L → c' = c + 1
theorem is_place_ok {n z : Int} {ts : List (Int × Int)} {X : XF} {Q : R → S → Prop} (h : ∀ fin, Q (.d (.bool (decide (0 ≤ z ∧ z < n)))) fin) : m_is_place [.d (webD n ts), .d (.int z)] X Q := by
  unfold m_is_place b_is_place
  refine st_sem rfl ?_
  array_get_dec
  by_cases h1 : 0 ≤ z
  · rw [decide_eq_true h1]
    array_get_dec
    have e : decide (0 ≤ z ∧ z < n) = decide (z < n) := decide_eq_decide.mpr ⟨fun q => q.2, fun q => ⟨h1, q⟩⟩
    rw [e] at h
    exact h _
  · rw [decide_eq_false h1]
    array_get_dec
    rw [decide_eq_false (fun q => h1 q.1)] at h
    exact h _
theorem are_places_ok {n : Int} {ts : List (Int × Int)} {K : List Int} (g : Good n ts) (hs : Set' n K) {X : XF} {Q : R → S → Prop} (h : ∀ fin, Q (.d (.bool true)) fin) : m_are_places [.d (webD n ts), .d (tupI K)] X Q := by
  have few := hs.few g.n10
  unfold m_are_places b_are_places
  rw [show tupI K = PyData.tuple (K.map .int) from rfl]
  refine st_sem rfl ?_
  array_get_dec
  refine ⟨by rw [List.length_map]; show _ ≤ 16777216; omega, ?_⟩
  array_get_dec
  refine comp_list PyData.int (fun _ => .bool true) _ (fun z hz kT hkT => ?_) ?_
  · have hz := hs.lt z hz
    array_get_dec
    refine is_place_ok fun fin => ?_
    array_get_dec
    rw [decide_eq_true hz]
    exact hkT
  array_get_dec
  refine st_all_map ?_
  array_get_dec
  refine st_iteF (by simp) ?_
  array_get_dec
  rw [List.length_map]
  refine ⟨⟨by omega, by omega⟩, ?_⟩
  array_get_dec
  refine ⟨by rw [rangeD_len]; show _ ≤ 16777216; omega, ?_⟩
  array_get_dec
  refine comp_true (fun x hx kT hkT => ?_) ?_
  · obtain ⟨k, hk, rfl⟩ := List.mem_map.mp (show x ∈ (List.range ((K.length : Int) - 1).toNat).map fun (k : Nat) => PyData.int (0 + (k : Int)) from hx)
    have hk := List.mem_range.mp hk
    have hk : (k : Int) < (K.length : Int) - 1 := by omega
    rw [Int.zero_add]
    array_get_dec
    refine st_ix_t (atZ_ok (ks := K) (i := (k : Int)) (by omega) (by omega)) ?_
    array_get_dec
    refine st_ix_t (atZ_ok (ks := K) (i := (k : Int) + 1) (by omega) (by omega)) ?_
    array_get_dec
    rw [decide_eq_true (hs.at_lt (i := (k : Int)) (j := (k : Int) + 1) (by omega) (by omega) (by omega))]
    exact hkT
  · array_get_dec
    refine st_all_true ?_
    array_get_dec
    exact h _
section
variable {n : Int} {ts : List (Int × Int)} {c : Int} {v : Int × Int} {L : Lay} {C : List (Int × Int)}
theorem need_pair_ok {i j : Int} (i0 : 0 ≤ i) (i1 : i < n) (j0 : 0 ≤ j) (j1 : j < n) (ne : i ≠ j) {X : XF} {Q : R → S → Prop} (h : Q (.d .none) [shO n ts c v L C, .d (.int i), .d (.int j)]) : m_Sharing_need_pair [shO n ts c v L C, .d (.int i), .d (.int j)] X Q := by
  unfold m_Sharing_need_pair b_Sharing_need_pair
  refine st_sem rfl ?_
  array_get_dec
  refine is_place_ok fun fin => ?_
  rw [decide_eq_true ⟨i0, i1⟩]
  array_get_dec
  refine is_place_ok fun fin => ?_
  rw [decide_eq_true ⟨j0, j1⟩]
  array_get_dec
  exact h
theorem sh_put_ok {K : List Int} (ok : ShOk n ts v L C) (hs : Set' n K) (h9 : n ≤ 9) {X : XF} {Q : R → S → Prop}
    (h : ∀ us c' v' L' C', Up us → (∀ p, p ∈ us ↔ p ∈ ts ∨ p.1 ∈ K ∧ p.2 = n) → Aft c L (n + 1) us c' v' L' C' → Q (.d (.int n)) [shO (n + 1) us c' v' L' C', .d (tupI K)]) : m_Sharing_put [shO n ts c v L C, .d (tupI K)] X Q := by
  have g := ok.g
  have n0 := g.n0
  have few := hs.few g.n10
  have tf := good_few g
  unfold m_Sharing_put b_Sharing_put
  refine st_sem rfl ?_
  array_get_dec
  refine are_places_ok g hs fun fin => ?_
  array_get_dec
  rw [show tupI K = PyData.tuple (K.map .int) from rfl]
  array_get_dec
  refine ⟨by rw [List.length_map]; show _ ≤ 16777216; omega, ?_⟩
  array_get_dec
  refine comp_list PyData.int (fun z => pairD (z, n)) _ (fun z hz kT hkT => ?_) ?_
  · array_get_dec
    exact hkT
  array_get_dec
  refine st_add_l ?_ ?_
  · rw [List.length_map, List.length_map]; show _ + _ ≤ 16777216; omega
  array_get_dec
  refine st_sort_p (ps := ts ++ K.map fun z => (z, n)) (by rw [List.map_append, List.map_map]; rfl) fun qs hq hqs => ?_
  array_get_dec
  have nd : (ts ++ K.map fun z => (z, n)).Nodup := List.nodup_append.mpr ⟨Up.nodup g.up, List.Pairwise.map _ (fun a b (hab : a < b) e => by simp at e; omega) hs.up, fun a ha b hb e => by
    obtain ⟨z, _, rfl⟩ := List.mem_map.mp hb
    have := g.ties a ha
    rw [e] at this
    dsimp only at this
    omega⟩
  have up : Up qs := strict_of hq nd hqs
  have mem : ∀ p, p ∈ qs ↔ p ∈ ts ∨ p.1 ∈ K ∧ p.2 = n := fun p => by
    rw [hq.mem_iff, List.mem_append, List.mem_map]
    constructor
    · rintro (q | ⟨z, hz, rfl⟩)
      · exact .inl q
      · exact .inr ⟨hz, rfl⟩
    · rintro (q | ⟨q1, q2⟩)
      · exact .inl q
      · exact .inr ⟨p.1, q1, Prod.ext rfl q2.symm⟩
  refine sh_change_ok (m := n + 1) (us := qs) ((Step.put hs h9 up mem).good g) ok.lay fun v' L' C' c' o1 o2 o3 => ?_
  array_get_dec
  exact h qs c' v' L' C' up mem ⟨o1, o2, o3⟩
theorem sh_tie_ok {i j : Int} (ok : ShOk n ts v L C) (i0 : 0 ≤ i) (i1 : i < n) (j0 : 0 ≤ j) (j1 : j < n) (ne : i ≠ j) (no : prI i j ∉ ts) {X : XF} {Q : R → S → Prop}
    (h : ∀ us c' v' L' C', Up us → (∀ p, p ∈ us ↔ p ∈ ts ∨ p = prI i j) → Aft c L n us c' v' L' C' → Q (.d .none) [shO n us c' v' L' C', .d (.int i), .d (.int j)]) : m_Sharing_tie [shO n ts c v L C, .d (.int i), .d (.int j)] X Q := by
  have g := ok.g
  have tf := good_few g
  unfold m_Sharing_tie b_Sharing_tie
  refine st_sem rfl ?_
  array_get_dec
  refine need_pair_ok i0 i1 j0 j1 ne ?_
  array_get_dec
  refine tied_in_ok fun fin => ?_
  rw [decide_eq_false no]
  array_get_dec
  refine st_add_t ?_ ?_
  · rw [List.length_map]; show _ + 1 ≤ 16777216; omega
  array_get_dec
  rw [show (ts.map pairD ++ [PyData.tuple [.int (min i j), .int (max i j)]]) = (ts ++ [prI i j]).map pairD by rw [List.map_append]; rfl]
  refine st_sort_pt (by simp) fun qs hq hqs => ?_
  array_get_dec
  have nd : (ts ++ [prI i j]).Nodup := List.nodup_append.mpr ⟨Up.nodup g.up, by simp, fun a ha b hb e => no (by rw [← List.mem_singleton.mp hb, ← e]; exact ha)⟩
  have up : Up qs := strict_of hq nd hqs
  have mem : ∀ p, p ∈ qs ↔ p ∈ ts ∨ p = prI i j := fun p => by rw [hq.mem_iff, List.mem_append, List.mem_singleton]
  refine sh_change_ok (m := n) (us := qs) ((Step.tie i0 i1 j0 j1 ne no up mem).good g) ok.lay fun v' L' C' c' o1 o2 o3 => ?_
  array_get_dec
  exact h qs c' v' L' C' up mem ⟨o1, o2, o3⟩
theorem sh_untie_ok {i j : Int} (ok : ShOk n ts v L C) (i0 : 0 ≤ i) (i1 : i < n) (j0 : 0 ≤ j) (j1 : j < n) (ne : i ≠ j) (yes : prI i j ∈ ts) {X : XF} {Q : R → S → Prop}
    (h : ∀ c' v' L' C', Aft c L n (ts.filter fun p => decide (p ≠ prI i j)) c' v' L' C' → Q (.d .none) [shO n (ts.filter fun p => decide (p ≠ prI i j)) c' v' L' C', .d (.int i), .d (.int j)]) : m_Sharing_untie [shO n ts c v L C, .d (.int i), .d (.int j)] X Q := by
  have g := ok.g
  have tf := good_few g
  unfold m_Sharing_untie b_Sharing_untie
  refine st_sem rfl ?_
  array_get_dec
  refine need_pair_ok i0 i1 j0 j1 ne ?_
  array_get_dec
  refine tied_in_ok fun fin => ?_
  rw [decide_eq_true yes]
  array_get_dec
  refine ⟨by rw [List.length_map]; show _ ≤ 16777216; omega, ?_⟩
  array_get_dec
  refine comp_filter pairD pairD (fun p => decide (p ≠ prI i j)) _ (fun p hp kT kF hT hF => ?_) ?_
  · array_get_dec
    refine st_ne_pp (q := prI i j) ?_
    array_get_dec
    refine st_ite (fun q => ?_) (fun q => ?_)
    · array_get_dec
      refine hT ?_
      rw [Bool.not_eq_true'] at q
      exact decide_eq_true (of_decide_eq_false q)
    · array_get_dec
      refine hF ?_
      rw [Bool.not_eq_false'] at q
      exact decide_eq_false (fun z => z (of_decide_eq_true q))
  array_get_dec
  refine sh_change_ok (m := n) (us := ts.filter fun p => decide (p ≠ prI i j)) ((Step.untie i0 i1 j0 j1 ne yes).good g) ok.lay fun v' L' C' c' o1 o2 o3 => ?_
  array_get_dec
  exact h c' v' L' C' ⟨o1, o2, o3⟩
theorem sh_drop_ok (ok : ShOk n ts v L C) (h0 : 0 < n) {X : XF} {Q : R → S → Prop}
    (h : ∀ c' v' L' C', Aft c L (n - 1) (ts.filter fun p => decide (p.2 ≠ n - 1)) c' v' L' C' → Q (.d .none) [shO (n - 1) (ts.filter fun p => decide (p.2 ≠ n - 1)) c' v' L' C']) : m_Sharing_drop [shO n ts c v L C] X Q := by
  have g := ok.g
  have tf := good_few g
  unfold m_Sharing_drop b_Sharing_drop
  refine st_sem rfl ?_
  array_get_dec
  refine ⟨by rw [List.length_map]; show _ ≤ 16777216; omega, ?_⟩
  array_get_dec
  refine comp_filter pairD pairD (fun p => decide (p.2 ≠ n - 1)) _ (fun p hp kT kF hT hF => ?_) ?_
  · obtain ⟨a, b⟩ := p
    rw [show pairD (a, b) = PyData.tuple [.int a, .int b] from rfl]
    array_get_dec
    refine st_ite (fun q => ?_) (fun q => ?_)
    · array_get_dec
      refine hT ?_
      rw [Bool.not_eq_true'] at q
      exact decide_eq_true (of_decide_eq_false q)
    · array_get_dec
      refine hF ?_
      rw [Bool.not_eq_false'] at q
      exact decide_eq_false (fun z => z (of_decide_eq_true q))
  array_get_dec
  refine sh_change_ok (m := n - 1) (us := ts.filter fun p => decide (p.2 ≠ n - 1)) ((Step.drop h0).good g) ok.lay fun v' L' C' c' o1 o2 o3 => ?_
  array_get_dec
  exact h c' v' L' C' ⟨o1, o2, o3⟩
def Deed.ret (n : Int) : Deed → PyData
  | .put _ => .int n
  | _ => .none
theorem do_ok {m : Int} {us : List (Int × Int)} {e : Deed} (ok : ShOk n ts v L C) (st : Step n ts e m us) {X : XF} {Q : R → S → Prop}
    (h : ∀ c' v' L' C', Aft c L m us c' v' L' C' → Q (.d (e.ret n)) [shO m us c' v' L' C', .d e.D]) : m__law_e_do [shO n ts c v L C, .d e.D] X Q := by
  unfold m__law_e_do b__law_e_do
  cases st with
  | @put K us hs h9 up mem =>
    rw [show (Deed.put K).D = PyData.tuple [.str "put", tupI K] from rfl] at *
    refine st_sem rfl ?_
    array_get_dec
    refine sh_put_ok ok hs h9 fun us2 c' v' L' C' up2 mem2 aft => ?_
    obtain rfl : us2 = us := up_eq up2 up fun p => (mem2 p).trans (mem p).symm
    array_get_dec
    exact h c' v' L' C' aft
  | drop h0 =>
    rw [show Deed.drop.D = PyData.tuple [.str "drop"] from rfl] at *
    refine st_sem rfl ?_
    array_get_dec
    refine sh_drop_ok ok h0 fun c' v' L' C' aft => ?_
    array_get_dec
    exact h c' v' L' C' aft
  | @tie i j us i0 i1 j0 j1 ne no up mem =>
    rw [show (Deed.tie i j).D = PyData.tuple [.str "tie", .int i, .int j] from rfl] at *
    refine st_sem rfl ?_
    array_get_dec
    refine sh_tie_ok ok i0 i1 j0 j1 ne no fun us2 c' v' L' C' up2 mem2 aft => ?_
    obtain rfl : us2 = us := up_eq up2 up fun p => (mem2 p).trans (mem p).symm
    array_get_dec
    exact h c' v' L' C' aft
  | @untie i j i0 i1 j0 j1 ne yes =>
    rw [show (Deed.untie i j).D = PyData.tuple [.str "untie", .int i, .int j] from rfl] at *
    refine st_sem rfl ?_
    array_get_dec
    refine sh_untie_ok ok i0 i1 j0 j1 ne yes fun c' v' L' C' aft => ?_
    array_get_dec
    exact h c' v' L' C' aft
end
theorem eqv_prs : ∀ ts us : List (Int × Int), PyData.eqvAll (ts.map pairD) (us.map pairD) = decide (ts = us)
  | [], [] => rfl
  | [], _ :: _ => rfl
  | _ :: _, [] => rfl
  | t :: ts, u :: us => by
    show (PyData.eqv (pairD t) (pairD u) && PyData.eqvAll (ts.map pairD) (us.map pairD)) = _
    rw [eqv_prs ts us, eqv_pair]
    by_cases h1 : t = u <;> by_cases h2 : ts = us <;> simp [h1, h2]
theorem eqv_web {n m : Int} {ts us : List (Int × Int)} : PyData.eqv (webD n ts) (webD m us) = decide (n = m ∧ ts = us) := by
  show (PyData.eqv (.int n) (.int m) && (PyData.eqvAll (ts.map pairD) (us.map pairD) && true)) = _
  rw [eqv_prs, Bool.and_true]
  simp only [PyData.eqv]
  by_cases h1 : n = m <;> by_cases h2 : ts = us <;> simp [h1, h2]
theorem lay_rows : ∀ F : Lay, PyData.canLayAll0 (F.map entD) = true ∧ PyData.depthAll (F.map entD) ≤ 3
  | [] => ⟨rfl, Nat.zero_le _⟩
  | e :: F => by
    obtain ⟨h1, h2⟩ := lay_rows F
    obtain ⟨h3, h4⟩ := lay_ints e.1
    have e1 : (entD e).canLay0 = PyData.canLayAll0 (e.1.map PyData.int) := by unfold entD tupI pairD; simp [PyData.canLay0, PyData.canLayAll0]
    have e2 : (entD e).depth ≤ 3 := by unfold entD tupI pairD; simp [PyData.depth, PyData.depthAll]; omega
    refine ⟨by show ((entD e).canLay0 && PyData.canLayAll0 (F.map entD)) = true; rw [h1, e1, h3]; rfl, ?_⟩
    show max ((entD e).depth) (PyData.depthAll (F.map entD)) ≤ 3
    omega
theorem eqv_rows : ∀ F : Lay, PyData.eqvAll (F.map entD) (F.map entD) = true
  | [] => rfl
  | e :: F => by
    show (PyData.eqv (entD e) (entD e) && PyData.eqvAll (F.map entD) (F.map entD)) = true
    rw [eqv_rows F]
    show ((PyData.eqv (tupI e.1) (tupI e.1) && (PyData.eqv (pairD e.2) (pairD e.2) && true)) && true) = true
    have h1 : PyData.eqv (tupI e.1) (tupI e.1) = true := by
      have := eqv_ints e.1 e.1
      rw [decide_eq_true rfl] at this
      exact this
    have h2 : PyData.eqv (pairD e.2) (pairD e.2) = true := by
      have := eqv_ints [e.2.1, e.2.2] [e.2.1, e.2.2]
      rw [decide_eq_true rfl] at this
      exact this
    rw [h1, h2]
    rfl
theorem st_ifP {nx bk ct : S → Prop} {rt : R → S → Prop} {xx : XF} {s : S} {t : FT} {f1 f2 : FS} (P1 P2 : Prop) (ht : ∀ K : Bool → S → Prop, (P1 → K true s) → (P2 → K false s) → t xx s K) (h1 : P1 → f1 ⟨nx, rt, bk, ct, xx⟩ s) (h2 : P2 → f2 ⟨nx, rt, bk, ct, xx⟩ s) : fIfS t f1 f2 ⟨nx, rt, bk, ct, xx⟩ s := by
  refine st_if (ht _ (fun p => ?_) fun p => ?_)
  · rw [if_pos rfl]; exact h1 p
  · rw [if_neg (by decide)]; exact h2 p
theorem e_next_ok {ns : List Int} {F : Nat} {xs : List D} {n most : Int} {ts : List (Int × Int)} (hc : Cup ns (F + 20) xs) (g : Good n ts) (hm : most ≤ 10) {X : XF} {Q : R → S → Prop}
    (h : ∀ e m us xs', Cup ns F xs' → Step n ts e m us → Q (.d (.tuple [e.D, webD m us])) [.l xs', .d (webD n ts), .d (.int most)]) : m__law_e_next [.l xs, .d (webD n ts), .d (.int most)] X Q := by
  have n0 := g.n0
  have n10 := g.n10
  have tf := good_few g
  unfold m__law_e_next b__law_e_next
  rw [show webD n ts = PyData.tuple [.int n, .tuple (ts.map pairD)] from rfl] at *
  refine st_sem rfl ?_
  generalize hW : PyData.tuple [.int n, .tuple (ts.map pairD)] = W at h ⊢
  refine st_join (fun s => s = [.l xs, .d W, .d (.int most), .d (.int n), .d (.tuple (ts.map pairD)), .no, .no, .no, .no, .no, .no, .no]) ?_ (fun k hk => by rw [← hW] at hk ⊢; array_get_dec; exact hk _ rfl)
  rintro s rfl
  refine st_join (fun s => ∃ sort xs1, Cup ns (F + 19) xs1 ∧ 0 ≤ sort ∧ s = [.l xs1, .d W, .d (.int most), .d (.int n), .d (.tuple (ts.map pairD)), .d (.int sort), .no, .no, .no, .no, .no, .no]) ?_ (fun k hk => by
    array_get_dec
    refine dip_ok (F := F + 19) hc (by decide) (by decide) fun sort xs1 hc1 s0 s1 => ?_
    array_get_dec
    exact hk _ ⟨sort, xs1, hc1, s0, rfl⟩)
  rintro s ⟨sort, xs1, hc1, s0, rfl⟩
  refine st_join (fun s => 0 < n ∧ s = [.l xs1, .d W, .d (.int most), .d (.int n), .d (.tuple (ts.map pairD)), .d (.int sort), .no, .no, .no, .no, .no, .no]) ?_ (fun kk hkk => ?_)
  · rintro s ⟨npos, rfl⟩
    refine st_join (fun s => 1 < n ∧ s = [.l xs1, .d W, .d (.int most), .d (.int n), .d (.tuple (ts.map pairD)), .d (.int sort), .no, .no, .no, .no, .no, .no]) ?_ (fun kk hkk => ?_)
    · rintro s ⟨n1, rfl⟩
      array_get_dec
      refine dip_ok (F := F + 18) hc1 (by omega) (by omega) fun i xs2 hc2 i0 i1 => ?_
      array_get_dec
      refine dip_ok (F := F + 17) hc2 (by omega) (by omega) fun r xs3 hc3 r0 r1 => ?_
      array_get_dec
      have j0 : 0 ≤ (i + 1 + r) % n := Int.emod_nonneg _ (by omega)
      have j1 : (i + 1 + r) % n < n := Int.emod_lt_of_pos _ (by omega)
      have ne : i ≠ (i + 1 + r) % n := by
        by_cases c : i + 1 + r < n
        · rw [Int.emod_eq_of_lt (by omega) c]; omega
        · rw [show i + 1 + r = (i + 1 + r - n) + n by omega, Int.add_emod_right, Int.emod_eq_of_lt (by omega) (by omega)]; omega
      generalize (i + 1 + r) % n = j at j0 j1 ne
      refine st_ite (fun q => ?_) (fun q => ?_)
      · have q : prI i j ∈ ts := of_decide_eq_true q
        array_get_dec
        refine ⟨by rw [List.length_map]; show _ ≤ 16777216; omega, ?_⟩
        array_get_dec
        refine comp_filter pairD pairD (fun p => decide (p ≠ prI i j)) _ (fun p hp kT kF hT hF => ?_) ?_
        · array_get_dec
          refine st_ne_pp (q := prI i j) ?_
          array_get_dec
          refine st_ite (fun q => ?_) (fun q => ?_)
          · array_get_dec
            refine hT ?_
            rw [Bool.not_eq_true'] at q
            exact decide_eq_true (of_decide_eq_false q)
          · array_get_dec
            refine hF ?_
            rw [Bool.not_eq_false'] at q
            exact decide_eq_false (fun z => z (of_decide_eq_true q))
        array_get_dec
        exact h (.untie i j) n _ _ (hc3.less (by omega)) (.untie i0 i1 j0 j1 ne q)
      · have q : prI i j ∉ ts := of_decide_eq_false q
        array_get_dec
        refine st_add_t ?_ ?_
        · rw [List.length_map]; show _ + 1 ≤ 16777216; omega
        array_get_dec
        rw [show (ts.map pairD ++ [PyData.tuple [.int (min i j), .int (max i j)]]) = (ts ++ [prI i j]).map pairD by rw [List.map_append]; rfl]
        refine st_sort_pt (by simp) fun qs hq hqs => ?_
        array_get_dec
        have nd : (ts ++ [prI i j]).Nodup := List.nodup_append.mpr ⟨Up.nodup g.up, by simp, fun a ha b hb e => q (by rw [← List.mem_singleton.mp hb, ← e]; exact ha)⟩
        exact h (.tie i j) n qs _ (hc3.less (by omega)) (.tie i0 i1 j0 j1 ne q (strict_of hq nd hqs) fun p => by rw [hq.mem_iff, List.mem_append, List.mem_singleton])
    · refine st_ifP True (1 < n) (fun K h1 h2 => ?_) (fun _ => ?_) (fun p => ?_)
      · array_get_dec
        by_cases c1 : n < 2
        · rw [decide_eq_true c1]
          array_get_dec
          exact h1 trivial
        · rw [decide_eq_false c1]
          array_get_dec
          refine st_ite (fun q => ?_) (fun q => ?_)
          · array_get_dec
            by_cases c3 : n > 2
            · rw [decide_eq_true c3]
              exact h1 trivial
            · rw [decide_eq_false c3]
              exact h2 (by omega)
          · exact h2 (by omega)
      · array_get_dec
        refine ⟨by rw [List.length_map]; show _ ≤ 16777216; omega, ?_⟩
        array_get_dec
        refine comp_filter pairD pairD (fun p => decide (p.2 < n - 1)) _ (fun p hp kT kF hT hF => ?_) ?_
        · obtain ⟨a, b⟩ := p
          rw [show pairD (a, b) = PyData.tuple [.int a, .int b] from rfl]
          array_get_dec
          refine st_ite (fun q => ?_) (fun q => ?_)
          · array_get_dec
            exact hT q
          · array_get_dec
            exact hF q
        array_get_dec
        have e : (ts.filter fun p => decide (p.2 < n - 1)) = ts.filter fun p => decide (p.2 ≠ n - 1) := List.filter_congr fun p hp => by
          have := g.ties p hp
          exact decide_eq_decide.mpr ⟨fun q => by omega, fun q => by omega⟩
        rw [e]
        exact h .drop (n - 1) _ _ (hc1.less (by omega)) (.drop npos)
      · array_get_dec
        exact hkk _ ⟨p, rfl⟩
  · refine st_ifP (n ≤ 9) (0 < n) (fun K h1 h2 => ?_) (fun n9 => ?_) (fun p => ?_)
    · array_get_dec
      by_cases c1 : n = 0
      · rw [decide_eq_true c1]
        array_get_dec
        exact h1 (by omega)
      · rw [decide_eq_false c1]
        array_get_dec
        refine st_ite (fun q => ?_) (fun q => ?_)
        · array_get_dec
          by_cases c3 : n < most
          · rw [decide_eq_true c3]
            exact h1 (by omega)
          · rw [decide_eq_false c3]
            exact h2 (by omega)
        · exact h2 (by omega)
    · refine st_join (fun s => ∃ (K : List Int) (xs2 : List D), Set' n K ∧ Cup ns F xs2 ∧ s = [.l xs2, .d W, .d (.int most), .d (.int n), .d (.tuple (ts.map pairD)), .d (.int sort), .d (.tuple (K.map .int)), .no, .no, .no, .no, .no]) ?_ (fun k1 hk1 => ?_)
      · rintro s ⟨K, xs2, hK, hc2, rfl⟩
        have kf := hK.few n10
        array_get_dec
        refine ⟨by rw [List.length_map]; show _ ≤ 16777216; omega, ?_⟩
        array_get_dec
        refine comp_list PyData.int (fun z => pairD (z, n)) _ (fun z hz kT hkT => ?_) ?_
        · array_get_dec
          exact hkT
        array_get_dec
        refine st_add_l ?_ ?_
        · rw [List.length_map, List.length_map]; show _ + _ ≤ 16777216; omega
        array_get_dec
        refine st_sort_p (ps := ts ++ K.map fun z => (z, n)) (by rw [List.map_append, List.map_map]; rfl) fun qs hq hqs => ?_
        array_get_dec
        have nd : (ts ++ K.map fun z => (z, n)).Nodup := List.nodup_append.mpr ⟨Up.nodup g.up, List.Pairwise.map _ (fun a b (hab : a < b) e => by simp at e; omega) hK.up, fun a ha b hb e => by
          obtain ⟨z, _, rfl⟩ := List.mem_map.mp hb
          have := g.ties a ha
          rw [e] at this
          dsimp only at this
          omega⟩
        exact h (.put K) (n + 1) qs _ hc2 (.put hK n9 (strict_of hq nd hqs) fun p => by
          rw [hq.mem_iff, List.mem_append, List.mem_map]
          constructor
          · rintro (q | ⟨z, hz, rfl⟩)
            · exact .inl q
            · exact .inr ⟨hz, rfl⟩
          · rintro (q | ⟨q1, q2⟩)
            · exact .inl q
            · exact .inr ⟨p.1, q1, Prod.ext rfl q2.symm⟩)
      · array_get_dec
        refine ⟨by unfold lim62; omega, ?_⟩
        refine ⟨by rw [rangeD_len]; show _ ≤ 16777216; omega, ?_⟩
        array_get_dec
        rw [rangeD_map]
        refine comp_inv (fun ys acc s => ∃ (ls done rest : List Int) (xs : List D), s = [.l xs, .d W, .d (.int most), .d (.int n), .d (.tuple (ts.map pairD)), .d (.int sort), .no, .no, .no, .no, .no, .no] ∧ acc = ls.map .int ∧ ys = rest.map .int ∧ rangeI n.toNat = done ++ rest ∧ ls.Sublist done ∧ Cup ns (F + rest.length) xs) ?_ ?_ _ _ _ ⟨[], [], _, xs1, rfl, rfl, rfl, rfl, .slnil, hc1.less (by rw [rangeI_len]; omega)⟩
        · rintro acc s ⟨ls, done, rest, xs, rfl, rfl, e, e2, hsub, hc⟩
          have e : rest = [] := by simpa using e.symm
          subst e
          rw [List.append_nil] at e2
          rw [← e2] at hsub
          array_get_dec
          exact hk1 _ ⟨ls, xs, set_range.sub hsub, hc, rfl⟩
        · rintro x ys acc s kT kF ⟨ls, done, rest, xs, rfl, rfl, e, e2, hsub, hc⟩ hkT hkF
          cases rest with
          | nil => cases e
          | cons z rest =>
            injection e with e1 e3
            subst e1 e3
            rw [List.length_cons] at hc
            array_get_dec
            refine dip_ok (F := F + rest.length) hc (by decide) (by decide) fun r xs' hc' hr0 hr1 => ?_
            array_get_dec
            refine st_ite (fun q => ?_) (fun q => ?_)
            · array_get_dec
              exact hkT _ _ ⟨ls ++ [z], done ++ [z], rest, xs', rfl, by rw [List.map_append]; rfl, rfl, by rw [e2]; simp, hsub.append (List.Sublist.refl _), hc'⟩
            · exact hkF _ ⟨ls, done ++ [z], rest, xs', rfl, rfl, rfl, by rw [e2]; simp, hsub.trans (List.sublist_append_left _ _), hc'⟩
    · array_get_dec
      exact hkk _ ⟨p, rfl⟩
end Lk51
namespace Lk51
open PySem Hs
local macro_rules
  | `(tactic| sizeOf_list_dec) => `(tactic| first
    | with_reducible refine st_seq ?_ | with_reducible refine st_asg ?_ | with_reducible refine st_cons ?_ | with_reducible refine st_nil ?_ | with_reducible refine st_C ?_ | with_reducible refine st_op ?_
    | with_reducible refine st_var_d ?_ | with_reducible refine st_var_l ?_ | with_reducible refine st_var_ll ?_ | with_reducible refine st_var_dc ?_
    | with_reducible refine st_look_d ?_ | with_reducible refine st_look_top ?_ | with_reducible refine st_look_top_d ?_ | with_reducible refine st_look_own ?_ | with_reducible refine st_look_top_dc ?_ | with_reducible refine st_look_own_dc ?_ | with_reducible refine st_put_d ?_ | with_reducible refine st_put_own ?_ | with_reducible refine st_put_top_l ?_ | with_reducible refine st_put_top_ll ?_ | with_reducible refine st_put_top_dc ?_
    | ((with_reducible refine st_callF ?_ ?_); eq_refl) | with_reducible refine st_call ?_ | with_reducible refine st_putK_nil ?_ | with_reducible refine st_putK_t ?_ | with_reducible refine st_putK_f ?_ | with_reducible refine st_putK_td ?_ | with_reducible refine st_putK_to ?_ | with_reducible refine st_bind_nil ?_ | with_reducible refine st_bind_f ?_ | with_reducible refine st_bind_tt ?_ | with_reducible refine st_bind_td ?_ | with_reducible refine st_bind_to ?_
    | with_reducible refine st_frz_d ?_ | with_reducible refine st_frz_own ?_ | with_reducible refine st_frz_top ?_ | with_reducible refine st_frz_own_ll ?_ | with_reducible refine st_frz_own_dc ?_ | with_reducible refine st_frz_top_ll ?_ | with_reducible refine st_frz_top_dc ?_ | with_reducible refine st_frzAll_nil ?_ | with_reducible refine st_frzAll_cons ?_
    | with_reducible refine st_if ?_ | with_reducible refine st_B ?_ | with_reducible refine st_and ?_ | with_reducible refine st_or ?_ | with_reducible refine st_not ?_ | with_reducible refine st_yes ?_ | with_reducible refine st_isB ?_ | with_reducible refine st_t ?_ | with_reducible refine st_f ?_ | ((with_reducible refine st_iteT ?_ ?_); decide) | ((with_reducible refine st_iteF ?_ ?_); decide)
    | with_reducible refine st_nt ?_ | with_reducible refine st_nf ?_
    | with_reducible refine st_ret ?_ | with_reducible refine st_next ?_ | with_reducible refine st_retN ?_ | with_reducible refine st_drop ?_ | with_reducible refine st_break ?_ | with_reducible refine st_raise ?_
    | with_reducible refine st_out_d ?_ | with_reducible refine st_out_own ?_ | with_reducible refine st_out_top ?_
    | with_reducible refine st_tup ?_ | with_reducible refine st_lst ?_ | with_reducible refine st_un ?_ | with_reducible refine st_blt ?_ | with_reducible refine st_lookAll_nil ?_ | with_reducible refine st_lookAll_cons ?_
    | with_reducible refine st_unp ?_ | with_reducible refine st_par ?_ | with_reducible refine st_setIx ?_ | with_reducible refine st_onL ?_ | with_reducible refine st_for ?_ | with_reducible refine st_wipe_nil ?_ | with_reducible refine st_wipe_cons ?_ | with_reducible refine st_andV ?_ | with_reducible refine st_orV ?_ | with_reducible refine st_notV ?_ | with_reducible refine st_ifE ?_ | with_reducible refine st_chain ?_
    | with_reducible refine st_sl ?_ | with_reducible refine st_noPart ?_ | with_reducible refine st_part ?_ | with_reducible refine st_lc ?_ | with_reducible refine st_lm ?_
    | with_reducible refine st_seqI ?_ | with_reducible refine st_range1 ?_ | with_reducible refine st_range2 ?_ | with_reducible refine st_enum ?_ | with_reducible refine st_zip ?_
    | with_reducible refine st_nm ?_ | with_reducible refine st_tp ?_ | with_reducible refine st_tps_nil ?_ | with_reducible refine st_tps_cons ?_
    | ((with_reducible refine st_mod_i ?_ ?_); (first | decide | omega)) | ((with_reducible refine st_fdiv_i ?_ ?_); decide) 
    | with_reducible refine st_add_i ?_ | with_reducible refine st_sub_i ?_ | with_reducible refine st_neg_i ?_ | with_reducible refine st_eq_i ?_ | with_reducible refine st_ne_i ?_ | with_reducible refine st_eq_str ?_ | with_reducible refine st_ne_str ?_ | with_reducible refine st_eq_b ?_ | with_reducible refine st_ne_b ?_ | with_reducible refine st_lt_i ?_ | with_reducible refine st_le_i ?_ | with_reducible refine st_gt_i ?_ | with_reducible refine st_ge_i ?_
    | with_reducible refine st_is_n ?_ | with_reducible refine st_isNot_n ?_ | with_reducible refine st_is_b ?_ | with_reducible refine st_isNot_b ?_ | ((with_reducible refine st_ix_l (x := ?_) ?_ ?_); rotate_left; eq_refl) | ((with_reducible refine st_ix_t (x := ?_) ?_ ?_); rotate_left; eq_refl) | with_reducible refine st_len_l ?_ | with_reducible refine st_len_t ?_ | with_reducible refine st_len_lit ?_
    | with_reducible refine st_abs ?_ | with_reducible refine st_max2 ?_ | with_reducible refine st_min2 ?_ | with_reducible refine st_int_i ?_ | with_reducible refine st_int_b ?_ | with_reducible refine st_tuple_l ?_ | with_reducible refine st_tuple_t ?_ | with_reducible refine st_list_l ?_ | with_reducible refine st_list_t ?_ | ((with_reducible refine st_isT ?_ ?_); eq_refl) | ((with_reducible refine st_isTT ?_ ?_); eq_refl) | ((with_reducible refine st_isTF ?_ ?_); eq_refl) | ((with_reducible refine st_isNT ?_ ?_); eq_refl) | ((with_reducible refine st_isNF ?_ ?_); eq_refl)
    | with_reducible refine st_rg1 ?_ | with_reducible refine st_rg2 ?_ | with_reducible refine st_enumL ?_ | with_reducible refine st_zipS ?_ | with_reducible refine st_rev_l ?_ | with_reducible refine st_rev_t ?_
    | with_reducible refine st_ne_ll ?_ | with_reducible refine st_ne_lit ?_ | with_reducible refine st_in_pt ?_ | with_reducible refine st_in_pl ?_
    | with_reducible refine st_sl_l ?_ | with_reducible refine st_sl_t ?_
    | ((with_reducible refine st_iteLen ?_ ?_); eq_refl) | ((with_reducible refine st_iteNLen ?_ ?_); eq_refl) | with_reducible refine st_iteBB ?_ | ((with_reducible refine st_iteND ?_ ?_); omega) | ((with_reducible refine st_iteNF ?_ ?_); omega)
    | ((with_reducible refine st_iteT (decide_eq_true ?_) ?_); omega) | ((with_reducible refine st_iteF (decide_eq_false ?_) ?_); omega))
local macro_rules
  | `(tactic| sizeOf_list_dec) => `(tactic| with_reducible refine stepTo ?_)
local macro_rules
  | `(tactic| array_get_dec) => `(tactic| repeat sizeOf_list_dec)
local macro_rules
  | `(tactic| sizeOf_list_dec) => `(tactic| first | with_reducible refine st_ix2_l ?_ | with_reducible refine st_ix2_t ?_ | with_reducible refine st_ix2_s ?_ | with_reducible refine st_ix2_lit ?_ | with_reducible refine st_inK_l ?_ | with_reducible refine st_inK_t ?_ | with_reducible refine st_ninK_l ?_ | with_reducible refine st_ninK_t ?_ | with_reducible refine st_setD ?_ | with_reducible refine st_onDc ?_ | with_reducible refine st_dget2 ?_ | with_reducible refine st_emT ?_ | with_reducible refine st_emD ?_ | with_reducible refine st_disp1 ?_ | with_reducible refine st_disp1k ?_ | with_reducible refine st_range3 ?_ | with_reducible refine st_bor ?_ | with_reducible refine st_borT ?_ | with_reducible refine st_bindT_nil ?_ | with_reducible refine st_bindT_d ?_ | with_reducible refine st_bindT_o ?_ | with_reducible refine st_bindT_t ?_ | with_reducible refine st_toPs_nil ?_ | with_reducible refine st_toPs_d ?_ | with_reducible refine st_toPs_l ?_ | with_reducible refine st_toPs_dc ?_ | with_reducible refine st_tupO ?_ | with_reducible refine st_var_tp ?_ | with_reducible refine st_frz_own_tp ?_ | with_reducible refine st_frz_top_tp ?_ | with_reducible refine st_lmP ?_ | ((with_reducible refine st_onP ?_ ?_); eq_refl) | with_reducible refine st_flat_b ?_ | with_reducible refine st_flat_i ?_)
local macro_rules
  | `(tactic| sizeOf_list_dec) => `(tactic| first | with_reducible refine st_fld_d ?_ | with_reducible refine st_fld_ob ?_ | with_reducible refine st_var_ob ?_ | with_reducible refine st_toPV_d ?_ | with_reducible refine st_toPV_l ?_ | with_reducible refine st_toPV_top_l ?_ | ((with_reducible refine st_obSet ?_ ?_); (exact Nat.le_of_ble_eq_true rfl)) | with_reducible refine st_setF ?_ | with_reducible refine st_setFI ?_ | with_reducible refine st_lmF ?_ | with_reducible refine st_meth_ob ?_ | with_reducible refine st_meth_d ?_ | with_reducible refine st_make ?_ | with_reducible refine st_mkK ?_ | with_reducible refine st_ixP ?_ | with_reducible refine st_zipM ?_)
local macro_rules
  | `(tactic| sizeOf_list_dec) => `(tactic| first | ((with_reducible refine st_gFld ?_ ?_); (exact Nat.le_of_ble_eq_true rfl)) | with_reducible refine st_par3 ?_ | with_reducible refine st_par3K ?_ | with_reducible refine st_lmT ?_ | with_reducible refine st_onOwnL ?_ | with_reducible refine st_onDs_nil ?_ | with_reducible refine st_onDs_cons ?_ | with_reducible refine st_clearT ?_)
local macro_rules
  | `(tactic| sizeOf_list_dec) => `(tactic| first | ((with_reducible refine st_isX (b := false) ?_ ?_); (decide +kernel)) | ((with_reducible refine st_isX (b := true) ?_ ?_); (decide +kernel)) | with_reducible refine st_try ?_)
local macro_rules
  | `(tactic| sizeOf_list_dec) => `(tactic| with_reducible refine is_whole_ok fun _ => ?_)
local macro_rules
  | `(tactic| sizeOf_list_dec) => `(tactic| first | with_reducible refine st_in_il ?_ | with_reducible refine st_in_it ?_ | with_reducible refine st_notIn_il ?_ | with_reducible refine st_notIn_it ?_ | with_reducible refine st_ne_ll ?_)
local macro_rules
  | `(tactic| sizeOf_list_dec) => `(tactic| first | with_reducible refine st_lcK ?_ | with_reducible refine st_rowOf ?_)
theorem kind_web_ok {X : XF} {Q : R → S → Prop} (h : ∀ fin, Q (.d (.str "web")) fin) : m__law_e_kind [.d (excD "NoWeb")] X Q := by
  unfold m__law_e_kind b__law_e_kind
  refine st_sem rfl ?_
  array_get_dec
  refine st_add_l (by show 3 + 3 ≤ 16777216; decide) ?_
  array_get_dec
  refine st_add_l (by show 6 + 3 ≤ 16777216; decide) ?_
  array_get_dec
  refine st_countB (bs := [false, false, false, false, false, false, false, true, false]) ?_
  array_get_dec
  refine st_indexB (bs := [false, false, false, false, false, false, false, true, false]) (by decide) ?_
  array_get_dec
  exact h _
theorem kind_place_ok {X : XF} {Q : R → S → Prop} (h : ∀ fin, Q (.d (.str "place")) fin) : m__law_e_kind [.d (excD "NoPlace")] X Q := by
  unfold m__law_e_kind b__law_e_kind
  refine st_sem rfl ?_
  array_get_dec
  refine st_add_l (by show 3 + 3 ≤ 16777216; decide) ?_
  array_get_dec
  refine st_add_l (by show 6 + 3 ≤ 16777216; decide) ?_
  array_get_dec
  refine st_countB (bs := [false, false, true, false, false, false, false, false, false]) ?_
  array_get_dec
  refine st_indexB (bs := [false, false, true, false, false, false, false, false, false]) (by decide) ?_
  array_get_dec
  exact h _
theorem kind_tie_ok {X : XF} {Q : R → S → Prop} (h : ∀ fin, Q (.d (.str "tie")) fin) : m__law_e_kind [.d (excD "NoTie")] X Q := by
  unfold m__law_e_kind b__law_e_kind
  refine st_sem rfl ?_
  array_get_dec
  refine st_add_l (by show 3 + 3 ≤ 16777216; decide) ?_
  array_get_dec
  refine st_add_l (by show 6 + 3 ≤ 16777216; decide) ?_
  array_get_dec
  refine st_countB (bs := [false, false, false, false, false, true, false, false, false]) ?_
  array_get_dec
  refine st_indexB (bs := [false, false, false, false, false, true, false, false, false]) (by decide) ?_
  array_get_dec
  exact h _
theorem kind_many_ok {X : XF} {Q : R → S → Prop} (h : ∀ fin, Q (.d (.str "many")) fin) : m__law_e_kind [.d (excD "TooMany")] X Q := by
  unfold m__law_e_kind b__law_e_kind
  refine st_sem rfl ?_
  array_get_dec
  refine st_add_l (by show 3 + 3 ≤ 16777216; decide) ?_
  array_get_dec
  refine st_add_l (by show 6 + 3 ≤ 16777216; decide) ?_
  array_get_dec
  refine st_countB (bs := [false, false, false, false, false, false, false, false, true]) ?_
  array_get_dec
  refine st_indexB (bs := [false, false, false, false, false, false, false, false, true]) (by decide) ?_
  array_get_dec
  exact h _
theorem pw_adj : ∀ {K : List Int}, (∀ k : Nat, k + 1 < K.length → atZ K (k : Int) < atZ K ((k : Int) + 1)) → K.Pairwise (· < ·)
  | [], _ => .nil
  | [_], _ => List.pairwise_singleton _ _
  | a :: b :: K, h => by
    have h0 := h 0 (by simp)
    have ih := pw_adj (K := b :: K) fun k hk => by
      have := h (k + 1) (by simpa using hk)
      have e1 : atZ (a :: b :: K) ((k + 1 : Nat) : Int) = atZ (b :: K) (k : Int) := by
        show (a :: b :: K).getD ((k + 1 : Nat) : Int).toNat 0 = (b :: K).getD (k : Int).toNat 0
        rw [Int.toNat_natCast, Int.toNat_natCast]; rfl
      have e2 : atZ (a :: b :: K) (((k + 1 : Nat) : Int) + 1) = atZ (b :: K) ((k : Int) + 1) := by
        show (a :: b :: K).getD (((k + 1 : Nat) : Int) + 1).toNat 0 = (b :: K).getD ((k : Int) + 1).toNat 0
        rw [show (((k + 1 : Nat) : Int) + 1).toNat = k + 1 + 1 by omega, show ((k : Int) + 1).toNat = k + 1 by omega]; rfl
      rw [e1, e2] at this
      exact this
    have h0 : a < b := h0
    refine List.pairwise_cons.mpr ⟨fun z hz => ?_, ih⟩
    rcases List.mem_cons.mp hz with rfl | hz
    · exact h0
    · exact Int.lt_trans h0 ((List.pairwise_cons.mp ih).1 z hz)
theorem are_places_x {n : Int} {ts : List (Int × Int)} {K : List Int} (hk : K.length ≤ 100) {X : XF} {Q : R → S → Prop} (h : ∀ fin, Q (.d (.bool (dec (Set' n K)))) fin) : m_are_places [.d (webD n ts), .d (tupI K)] X Q := by
  unfold m_are_places b_are_places
  rw [show tupI K = PyData.tuple (K.map .int) from rfl]
  refine st_sem rfl ?_
  array_get_dec
  refine ⟨by rw [List.length_map]; show _ ≤ 16777216; omega, ?_⟩
  array_get_dec
  refine comp_list PyData.int (fun z => .bool (decide (0 ≤ z ∧ z < n))) _ (fun z hz kT hkT => ?_) ?_
  · array_get_dec
    refine is_place_ok fun fin => ?_
    array_get_dec
    exact hkT
  array_get_dec
  refine st_all_map ?_
  array_get_dec
  refine st_ite (fun c => ?_) (fun c => ?_)
  · array_get_dec
    rw [dec_f (fun q => by
      rw [Bool.not_eq_true'] at c
      rw [List.all_eq_true.mpr fun z hz => decide_eq_true (q.lt z hz)] at c
      cases c)] at h
    exact h _
  · have lt : ∀ z ∈ K, 0 ≤ z ∧ z < n := fun z hz => by
      rw [Bool.not_eq_false'] at c
      exact of_decide_eq_true (List.all_eq_true.mp c z hz)
    array_get_dec
    rw [List.length_map]
    refine ⟨⟨by omega, by omega⟩, ?_⟩
    array_get_dec
    refine ⟨by rw [rangeD_len]; show _ ≤ 16777216; omega, ?_⟩
    array_get_dec
    rw [show rangeD 0 ((K.length : Int) - 1).toNat = (List.range ((K.length : Int) - 1).toNat).map fun (k : Nat) => PyData.int (k : Int) by unfold rangeD; exact List.map_congr_left fun k _ => by simp]
    refine comp_list (fun k : Nat => PyData.int (k : Int)) (fun k : Nat => .bool (decide (atZ K (k : Int) < atZ K ((k : Int) + 1)))) _ (fun k hk kT hkT => ?_) ?_
    · have hk := List.mem_range.mp hk
      have hk : (k : Int) < (K.length : Int) - 1 := by omega
      array_get_dec
      refine st_ix_t (atZ_ok (ks := K) (i := (k : Int)) (by omega) (by omega)) ?_
      array_get_dec
      refine st_ix_t (atZ_ok (ks := K) (i := (k : Int) + 1) (by omega) (by omega)) ?_
      array_get_dec
      exact hkT
    · array_get_dec
      refine st_all_map ?_
      array_get_dec
      have e : ((List.range ((K.length : Int) - 1).toNat).all fun k : Nat => decide (atZ K (k : Int) < atZ K ((k : Int) + 1))) = dec (Set' n K) := by
        by_cases c2 : Set' n K
        · rw [dec_t c2, List.all_eq_true]
          intro k hk
          have hk := List.mem_range.mp hk
          exact decide_eq_true (c2.at_lt (by omega) (by omega) (by omega))
        · rw [dec_f c2, List.all_eq_false]
          have : ¬ ∀ k : Nat, k + 1 < K.length → atZ K (k : Int) < atZ K ((k : Int) + 1) := fun q => c2 ⟨pw_adj q, lt⟩
          simp only [Classical.not_forall] at this
          obtain ⟨k, hk, hq⟩ := this
          exact ⟨k, List.mem_range.mpr (by omega), by simpa using hq⟩
      rw [e]
      exact h _
def PairOk (n i j : Int) : Prop := 0 ≤ i ∧ i < n ∧ 0 ≤ j ∧ j < n ∧ i ≠ j
/-- a deed that is refused, and how -/
inductive Bad (n : Int) (ts : List (Int × Int)) : Deed → Str → Str → Prop
  | putP {K : List Int} : K.length ≤ 10 → ¬ Set' n K → Bad n ts (.put K) "NoPlace" "place"
  | putM {K : List Int} : Set' n K → n = 10 → Bad n ts (.put K) "TooMany" "many"
  | tieP {i j : Int} : ¬ PairOk n i j → Bad n ts (.tie i j) "NoPlace" "place"
  | tieT {i j : Int} : PairOk n i j → prI i j ∈ ts → Bad n ts (.tie i j) "NoTie" "tie"
  | untieP {i j : Int} : ¬ PairOk n i j → Bad n ts (.untie i j) "NoPlace" "place"
  | untieT {i j : Int} : PairOk n i j → prI i j ∉ ts → Bad n ts (.untie i j) "NoTie" "tie"
  | drop : n = 0 → Bad n ts .drop "NoPlace" "place"
section
variable {n : Int} {ts : List (Int × Int)} {c : Int} {v : Int × Int} {L : Lay} {C : List (Int × Int)}
theorem need_pair_no {i j : Int} (no : ¬ PairOk n i j) {X : XF} {Q : R → S → Prop} (h : X "NoPlace" [shO n ts c v L C, .d (.int i), .d (.int j)]) : m_Sharing_need_pair [shO n ts c v L C, .d (.int i), .d (.int j)] X Q := by
  unfold m_Sharing_need_pair b_Sharing_need_pair
  refine st_sem rfl ?_
  array_get_dec
  refine is_place_ok fun fin => ?_
  array_get_dec
  refine st_ite (fun q => ?_) (fun q => ?_)
  · array_get_dec
    exact h
  · rw [Bool.not_eq_false'] at q
    have q := of_decide_eq_true q
    array_get_dec
    refine is_place_ok fun fin => ?_
    array_get_dec
    refine st_ite (fun q2 => ?_) (fun q2 => ?_)
    · array_get_dec
      exact h
    · rw [Bool.not_eq_false'] at q2
      have q2 := of_decide_eq_true q2
      array_get_dec
      have e : i = j := Classical.byContradiction fun ne => no ⟨q.1, q.2, q2.1, q2.2, ne⟩
      refine st_iteT (decide_eq_true e) ?_
      array_get_dec
      exact h
theorem do_no {e : Deed} {x kd : Str} (g : Good n ts) (b : Bad n ts e x kd) {X : XF} {Q : R → S → Prop} (h : X x [shO n ts c v L C, .d e.D]) : m__law_e_do [shO n ts c v L C, .d e.D] X Q := by
  unfold m__law_e_do b__law_e_do
  cases b with
  | @putP K hk no =>
    rw [show (Deed.put K).D = PyData.tuple [.str "put", tupI K] from rfl] at *
    refine st_sem rfl ?_
    array_get_dec
    unfold m_Sharing_put b_Sharing_put
    refine st_sem rfl ?_
    array_get_dec
    refine are_places_x (by omega) fun fin => ?_
    rw [dec_f no]
    array_get_dec
    exact h
  | @putM K hs h10 =>
    have few := hs.few g.n10
    rw [show (Deed.put K).D = PyData.tuple [.str "put", tupI K] from rfl] at *
    refine st_sem rfl ?_
    array_get_dec
    unfold m_Sharing_put b_Sharing_put
    refine st_sem rfl ?_
    array_get_dec
    refine are_places_ok g hs fun fin => ?_
    array_get_dec
    exact h
  | @tieP i j no =>
    rw [show (Deed.tie i j).D = PyData.tuple [.str "tie", .int i, .int j] from rfl] at *
    refine st_sem rfl ?_
    array_get_dec
    unfold m_Sharing_tie b_Sharing_tie
    refine st_sem rfl ?_
    array_get_dec
    refine need_pair_no no ?_
    exact h
  | @tieT i j ok yes =>
    obtain ⟨i0, i1, j0, j1, ne⟩ := ok
    rw [show (Deed.tie i j).D = PyData.tuple [.str "tie", .int i, .int j] from rfl] at *
    refine st_sem rfl ?_
    array_get_dec
    unfold m_Sharing_tie b_Sharing_tie
    refine st_sem rfl ?_
    array_get_dec
    refine need_pair_ok i0 i1 j0 j1 ne ?_
    array_get_dec
    refine tied_in_ok fun fin => ?_
    rw [decide_eq_true yes]
    array_get_dec
    exact h
  | @untieP i j no =>
    rw [show (Deed.untie i j).D = PyData.tuple [.str "untie", .int i, .int j] from rfl] at *
    refine st_sem rfl ?_
    array_get_dec
    unfold m_Sharing_untie b_Sharing_untie
    refine st_sem rfl ?_
    array_get_dec
    refine need_pair_no no ?_
    exact h
  | @untieT i j ok no =>
    obtain ⟨i0, i1, j0, j1, ne⟩ := ok
    rw [show (Deed.untie i j).D = PyData.tuple [.str "untie", .int i, .int j] from rfl] at *
    refine st_sem rfl ?_
    array_get_dec
    unfold m_Sharing_untie b_Sharing_untie
    refine st_sem rfl ?_
    array_get_dec
    refine need_pair_ok i0 i1 j0 j1 ne ?_
    array_get_dec
    refine tied_in_ok fun fin => ?_
    rw [decide_eq_false no]
    array_get_dec
    exact h
  | drop h0 =>
    rw [show Deed.drop.D = PyData.tuple [.str "drop"] from rfl] at *
    refine st_sem rfl ?_
    array_get_dec
    unfold m_Sharing_drop b_Sharing_drop
    refine st_sem rfl ?_
    array_get_dec
    exact h
theorem st_isNo_ob {i : Nat} {s : S} {cl : Str} {fs : List (Str × PV)} {X : XF} {Q : R → S → Prop} [gt : Get s i (.ob cl fs)] (h : Q (.d (.bool false)) s) : fIsNo i X s Q := by
  unfold fIsNo
  rw [gt.e]
  exact h
theorem st_isNo_n {i : Nat} {s : S} {X : XF} {Q : R → S → Prop} [gt : Get s i (.d .none)] (h : Q (.d (.bool true)) s) : fIsNo i X s Q := by
  unfold fIsNo
  rw [gt.e]
  exact h
theorem word_no {e : Deed} {x kd : Str} (g : Good n ts) (b : Bad n ts e x kd) {X : XF} {Q : R → S → Prop} (h : Q (.d (.str kd)) [shO n ts c v L C, .d e.D]) : m__law_e_word [shO n ts c v L C, .d e.D] X Q := by
  unfold m__law_e_word b__law_e_word
  refine st_sem rfl ?_
  array_get_dec
  refine st_isNo_ob ?_
  array_get_dec
  refine do_no g b ?_
  generalize hS : shO n ts c v L C = O at h ⊢
  generalize hD : e.D = De at h ⊢
  cases b with
  | tieT _ _ =>
    refine ⟨by simp, ?_⟩
    dsimp only [List.take, List.tail, List.set, putB]
    array_get_dec
    dsimp only [List.set]
    array_get_dec
    refine kind_tie_ok fun fin => ?_
    array_get_dec
    exact h
  | untieT _ _ =>
    refine ⟨by simp, ?_⟩
    dsimp only [List.take, List.tail, List.set, putB]
    array_get_dec
    dsimp only [List.set]
    array_get_dec
    refine kind_tie_ok fun fin => ?_
    array_get_dec
    exact h
  | putM _ _ =>
    refine ⟨by simp, ?_⟩
    dsimp only [List.take, List.tail, List.set, putB]
    array_get_dec
    dsimp only [List.set]
    array_get_dec
    refine kind_many_ok fun fin => ?_
    array_get_dec
    exact h
  | putP _ _ =>
    refine ⟨by simp, ?_⟩
    dsimp only [List.take, List.tail, List.set, putB]
    array_get_dec
    dsimp only [List.set]
    array_get_dec
    refine kind_place_ok fun fin => ?_
    array_get_dec
    exact h
  | tieP _ =>
    refine ⟨by simp, ?_⟩
    dsimp only [List.take, List.tail, List.set, putB]
    array_get_dec
    dsimp only [List.set]
    array_get_dec
    refine kind_place_ok fun fin => ?_
    array_get_dec
    exact h
  | untieP _ =>
    refine ⟨by simp, ?_⟩
    dsimp only [List.take, List.tail, List.set, putB]
    array_get_dec
    dsimp only [List.set]
    array_get_dec
    refine kind_place_ok fun fin => ?_
    array_get_dec
    exact h
  | drop _ =>
    refine ⟨by simp, ?_⟩
    dsimp only [List.take, List.tail, List.set, putB]
    array_get_dec
    dsimp only [List.set]
    array_get_dec
    refine kind_place_ok fun fin => ?_
    array_get_dec
    exact h
theorem word_web {d : D} (hd : okB 4 d = true) (hw : webB d = false) {X : XF} {Q : R → S → Prop} (h : Q (.d (.str "web")) [.d .none, .d d]) : m__law_e_word [.d .none, .d d] X Q := by
  unfold m__law_e_word b__law_e_word
  refine st_sem rfl ?_
  array_get_dec
  refine st_isNo_n ?_
  array_get_dec
  unfold m_Sharing_init b_Sharing_init
  refine st_sem rfl ?_
  array_get_dec
  refine need_web_no hd hw fun fin => ⟨by simp, ?_⟩
  dsimp only [List.take, List.tail, List.set, putB]
  array_get_dec
  dsimp only [List.set]
  array_get_dec
  refine kind_web_ok fun fin => ?_
  array_get_dec
  exact h
abbrev toldD (n : Int) (ts : List (Int × Int)) (c : Int) (v : Int × Int) (L : Lay) : D := .tuple [webD n ts, pairD v, .list (L.map entD), .int c]
theorem e_told_ok {X : XF} {Q : R → S → Prop} (h : Q (.d (toldD n ts c v L)) [shO n ts c v L C]) : m__law_e_told [shO n ts c v L C] X Q := by
  unfold m__law_e_told b__law_e_told
  refine st_sem rfl ?_
  array_get_dec
  refine sh_web_ok ?_
  array_get_dec
  refine sh_value_ok ?_
  array_get_dec
  refine sh_laying_ok ?_
  array_get_dec
  refine sh_again_ok ?_
  array_get_dec
  exact h
end
def BadRows (n : Int) (ts : List (Int × Int)) (ds : List D) : Prop := ∀ d ∈ ds, ∃ (e : Deed) (x kd : Str), d = .tuple [e.D, .str kd] ∧ Bad n ts e x kd
theorem BadRows.add {n : Int} {ts : List (Int × Int)} {ds rs : List D} (h : BadRows n ts ds) (h2 : BadRows n ts rs) : BadRows n ts (ds ++ rs) := fun d hd => (List.mem_append.mp hd).elim (h d) (h2 d)
theorem BadRows.one {n : Int} {ts : List (Int × Int)} {e : Deed} {x kd : Str} (b : Bad n ts e x kd) : BadRows n ts [.tuple [e.D, .str kd]] := fun d hd => ⟨e, x, kd, by simpa using hd, b⟩
theorem BadRows.cons {n : Int} {ts : List (Int × Int)} {e : Deed} {x kd : Str} {ds : List D} (b : Bad n ts e x kd) (h : BadRows n ts ds) : BadRows n ts (.tuple [e.D, .str kd] :: ds) := fun d hd => by
  rcases List.mem_cons.mp hd with rfl | hd
  · exact ⟨e, x, kd, rfl, b⟩
  · exact h d hd
theorem BadRows.nil {n : Int} {ts : List (Int × Int)} : BadRows n ts [] := fun _ h => nomatch h
theorem prI_lt {i j : Int} (h : i < j) : prI i j = (i, j) := by unfold prI; rw [Int.min_eq_left (by omega), Int.max_eq_right (by omega)]
theorem prI_gt {i j : Int} (h : i < j) : prI j i = (i, j) := by unfold prI; rw [Int.min_eq_right (by omega), Int.max_eq_left (by omega)]
theorem e_refused_ok {ns : List Int} {F : Nat} {xs : List D} {n : Int} {ts : List (Int × Int)} (hc : Cup ns (F + 1) xs) (g : Good n ts) {X : XF} {Q : R → S → Prop}
    (h : ∀ ds xs', Cup ns F xs' → BadRows n ts ds → Q (.own (.l ds)) [.l xs', .d (webD n ts)]) : m__law_e_refused [.l xs, .d (webD n ts)] X Q := by
  have n0 := g.n0
  have n10 := g.n10
  unfold m__law_e_refused b__law_e_refused
  rw [show webD n ts = PyData.tuple [.int n, .tuple (ts.map pairD)] from rfl] at *
  refine st_sem rfl ?_
  generalize hW : PyData.tuple [.int n, .tuple (ts.map pairD)] = W at h ⊢
  refine st_join (fun s => s = [.l xs, .d W, .d (.int n), .d (.tuple (ts.map pairD)), .no, .no, .no, .no, .no, .no]) ?_ (fun k hk => by rw [← hW] at hk ⊢; array_get_dec; exact hk _ rfl)
  rintro s rfl
  refine st_join (fun s => ∃ far xs1, Cup ns F xs1 ∧ 0 ≤ far ∧ s = [.l xs1, .d W, .d (.int n), .d (.tuple (ts.map pairD)), .d (.int far), .no, .no, .no, .no, .no]) ?_ (fun k hk => by
    array_get_dec
    refine dip_ok (F := F) hc (by decide) (by decide) fun far xs1 hc1 s0 s1 => ?_
    array_get_dec
    exact hk _ ⟨far, xs1, hc1, s0, rfl⟩)
  rintro s ⟨far, xs1, hc1, f0, rfl⟩
  refine st_join (fun s => s = [.l xs1, .d W, .d (.int n), .d (.tuple (ts.map pairD)), .d (.int far), .l [], .no, .no, .no, .no]) ?_ (fun k hk => by array_get_dec; exact hk _ rfl)
  rintro s rfl
  refine st_join (fun s => ∃ ds, BadRows n ts ds ∧ ds.length ≤ 9 ∧ s = [.l xs1, .d W, .d (.int n), .d (.tuple (ts.map pairD)), .d (.int far), .l ds, .no, .no, .no, .no]) ?_ (fun k hk => ?_)
  rotate_left
  · array_get_dec
    refine loop_for (fun l s => ∃ ds, (∀ d ∈ l, ∃ K : List Int, d = tupI K ∧ K.length ≤ 10 ∧ ¬ Set' n K) ∧ BadRows n ts ds ∧ ds.length + l.length ≤ 9 ∧ s = [.l xs1, .d W, .d (.int n), .d (.tuple (ts.map pairD)), .d (.int far), .l ds, .no, .no, .no, .no]) ?_ ?_ _ _ ⟨[], fun d hd => ?_, .nil, by show 0 + 9 ≤ 9; decide, rfl⟩
    · rintro s ⟨ds, _, ok, hl, rfl⟩
      exact hk _ ⟨ds, ok, by simpa using hl, rfl⟩
    · rintro d l s kk ⟨ds, hds, ok, hl, rfl⟩ hkk
      obtain ⟨K, rfl, k10, no⟩ := hds d List.mem_cons_self
      rw [List.length_cons] at hl
      array_get_dec
      refine st_append (by show _ < 16777216; omega) ?_
      array_get_dec
      exact hkk _ ⟨_, fun d hd => hds d (List.mem_cons_of_mem _ hd), ok.add (.one (e := .put K) (.putP k10 no)), by rw [List.length_append]; show _ + 1 + _ ≤ 9; omega, rfl⟩
    · simp only [List.mem_cons, List.not_mem_nil, or_false] at hd
      rcases hd with rfl | rfl | rfl | rfl | rfl | rfl | rfl | rfl | rfl
      · exact ⟨[n], rfl, by simp, fun q => by have := q.lt n (by simp); omega⟩
      · exact ⟨[-1], rfl, by simp, fun q => by have := q.lt (-1) (by simp); omega⟩
      · exact ⟨[n + far], rfl, by simp, fun q => by have := q.lt (n + far) (by simp); omega⟩
      · exact ⟨[-1 - far], rfl, by simp, fun q => by have := q.lt (-1 - far) (by simp); omega⟩
      · exact ⟨[0, n], rfl, by simp, fun q => by have := q.lt n (by simp); omega⟩
      · exact ⟨[0, 0], rfl, by simp, fun q => by have := (List.pairwise_cons.mp q.up).1 0 (by simp); omega⟩
      · exact ⟨[1, 0], rfl, by simp, fun q => by have := (List.pairwise_cons.mp q.up).1 0 (by simp); omega⟩
      · exact ⟨[n - 1, n - 1], rfl, by simp, fun q => by have := (List.pairwise_cons.mp q.up).1 (n - 1) (by simp); omega⟩
      · exact ⟨[n, 0], rfl, by simp, fun q => by have := q.lt n (by simp); omega⟩
  rintro s ⟨ds, ok, hl, rfl⟩
  refine st_join (fun s => ∃ ds, BadRows n ts ds ∧ ds.length ≤ 33 ∧ s = [.l xs1, .d W, .d (.int n), .d (.tuple (ts.map pairD)), .d (.int far), .l ds, .no, .no, .no, .no]) ?_ (fun k hk => ?_)
  rotate_left
  · array_get_dec
    refine loop_for (fun l s => ∃ ds, (∀ d ∈ l, ∃ i : Int, d = .int i ∧ ¬ (0 ≤ i ∧ i < n)) ∧ BadRows n ts ds ∧ ds.length + 6 * l.length ≤ 33 ∧ s = [.l xs1, .d W, .d (.int n), .d (.tuple (ts.map pairD)), .d (.int far), .l ds, .no, .no, .no, .no]) ?_ ?_ _ _ ⟨ds, fun d hd => ?_, ok, by show _ + 6 * 4 ≤ 33; omega, rfl⟩
    · rintro s ⟨ds, _, ok, hl, rfl⟩
      exact hk _ ⟨ds, ok, by simpa using hl, rfl⟩
    · rintro d l s kk ⟨ds, hds, ok, hl, rfl⟩ hkk
      obtain ⟨i, rfl, no⟩ := hds d List.mem_cons_self
      rw [List.length_cons] at hl
      array_get_dec
      refine loop_for (fun l2 s => ∃ ds, (∀ d ∈ l2, d = .str "tie" ∨ d = .str "untie") ∧ BadRows n ts ds ∧ ds.length + 3 * l2.length + 6 * l.length ≤ 33 ∧ s = [.l xs1, .d W, .d (.int n), .d (.tuple (ts.map pairD)), .d (.int far), .l ds, .no, .d (.int i), .no, .no]) ?_ ?_ _ _ ⟨ds, fun d hd => by simpa using hd, ok, by show _ + 3 * 2 + _ ≤ 33; omega, rfl⟩
      · rintro s ⟨ds, _, ok, hl, rfl⟩
        exact hkk _ ⟨ds, fun d hd => hds d (List.mem_cons_of_mem _ hd), ok, by simpa using hl, rfl⟩
      · rintro d l2 s k2 ⟨ds, hds2, ok, hl2, rfl⟩ hk2
        rw [List.length_cons] at hl2
        have p1 : ¬ PairOk n i 0 := fun q => no ⟨q.1, q.2.1⟩
        have p2 : ¬ PairOk n 0 i := fun q => no ⟨q.2.2.1, q.2.2.2.1⟩
        have p3 : ¬ PairOk n i i := fun q => no ⟨q.1, q.2.1⟩
        rcases hds2 d List.mem_cons_self with rfl | rfl
        · array_get_dec
          refine st_add_l (by show _ + 3 ≤ 16777216; omega) ?_
          array_get_dec
          exact hk2 _ ⟨_, fun d hd => hds2 d (List.mem_cons_of_mem _ hd), ok.add (.cons (e := .tie i 0) (.tieP p1) (.cons (e := .tie 0 i) (.tieP p2) (.one (e := .tie i i) (.tieP p3)))), by rw [List.length_append]; show _ + 3 + _ + _ ≤ 33; omega, rfl⟩
        · array_get_dec
          refine st_add_l (by show _ + 3 ≤ 16777216; omega) ?_
          array_get_dec
          exact hk2 _ ⟨_, fun d hd => hds2 d (List.mem_cons_of_mem _ hd), ok.add (.cons (e := .untie i 0) (.untieP p1) (.cons (e := .untie 0 i) (.untieP p2) (.one (e := .untie i i) (.untieP p3)))), by rw [List.length_append]; show _ + 3 + _ + _ ≤ 33; omega, rfl⟩
    · simp only [List.mem_cons, List.not_mem_nil, or_false] at hd
      rcases hd with rfl | rfl | rfl | rfl
      · exact ⟨-1, rfl, by omega⟩
      · exact ⟨n, rfl, by omega⟩
      · exact ⟨n + far, rfl, by omega⟩
      · exact ⟨-1 - far, rfl, by omega⟩
  clear ok hl ds
  rintro s ⟨ds, ok, hl, rfl⟩
  refine st_join (fun s => ∃ ds, BadRows n ts ds ∧ ds.length ≤ 500 ∧ s = [.l xs1, .d W, .d (.int n), .d (.tuple (ts.map pairD)), .d (.int far), .l ds, .no, .no, .no, .no]) ?_ (fun k hk => ?_)
  rotate_left
  · array_get_dec
    refine ⟨by unfold lim62; omega, ?_⟩
    array_get_dec
    refine loop_range1 (fun i s => ∃ ds, BadRows n ts ds ∧ (ds.length : Int) ≤ 33 + 30 * i ∧ s = [.l xs1, .d W, .d (.int n), .d (.tuple (ts.map pairD)), .d (.int far), .l ds, .no, .no, .no, .no]) ?_ ?_ ⟨ds, ok, by omega, rfl⟩
    · rintro s ⟨ds, ok, hl, rfl⟩
      exact hk _ ⟨ds, ok, by omega, rfl⟩
    · rintro i s kk i0 i1 ⟨ds, ok, hl, rfl⟩ hkk
      have p3 : ¬ PairOk n i i := fun q => q.2.2.2.2 rfl
      array_get_dec
      refine st_add_l (by show _ + 2 ≤ 16777216; omega) ?_
      array_get_dec
      refine ⟨by unfold lim62; omega, by unfold lim62; omega, ?_⟩
      array_get_dec
      refine loop_range (lo := i + 1) (hi := n) (fun j s => ∃ ds, BadRows n ts ds ∧ (ds.length : Int) ≤ 33 + 30 * i + 2 + 2 * (j - i) ∧ s = [.l xs1, .d W, .d (.int n), .d (.tuple (ts.map pairD)), .d (.int far), .l ds, .no, .d (.int i), .no, .no]) ?_ ?_ ⟨_, ok.add (.cons (e := .tie i i) (.tieP p3) (.one (e := .untie i i) (.untieP p3))), by rw [List.length_append]; show ((ds.length + 2 : Nat) : Int) ≤ _; omega, rfl⟩
      · rintro s ⟨ds, ok, hl, rfl⟩
        exact hkk _ ⟨ds, ok, by omega, rfl⟩
      · rintro j s k2 j0 j1 ⟨ds, ok, hl, rfl⟩ hk2
        have q1 : PairOk n i j := ⟨i0, i1, by omega, j1, by omega⟩
        have q2 : PairOk n j i := ⟨by omega, j1, i0, i1, by omega⟩
        array_get_dec
        by_cases c : (i, j) ∈ ts
        · rw [decide_eq_true c]
          array_get_dec
          refine st_add_l (by show _ + 2 ≤ 16777216; omega) ?_
          array_get_dec
          exact hk2 _ ⟨_, ok.add (.cons (e := .tie i j) (.tieT q1 (by rw [prI_lt (by omega)]; exact c)) (.one (e := .tie j i) (.tieT q2 (by rw [prI_gt (by omega)]; exact c)))), by rw [List.length_append]; show ((ds.length + 2 : Nat) : Int) ≤ _; omega, rfl⟩
        · rw [decide_eq_false c]
          array_get_dec
          refine st_add_l (by show _ + 2 ≤ 16777216; omega) ?_
          array_get_dec
          exact hk2 _ ⟨_, ok.add (.cons (e := .untie i j) (.untieT q1 (by rw [prI_lt (by omega)]; exact c)) (.one (e := .untie j i) (.untieT q2 (by rw [prI_gt (by omega)]; exact c)))), by rw [List.length_append]; show ((ds.length + 2 : Nat) : Int) ≤ _; omega, rfl⟩
  clear ok hl ds
  rintro s ⟨ds, ok, hl, rfl⟩
  refine st_join (fun s => ∃ ds, BadRows n ts ds ∧ ds.length ≤ 503 ∧ s = [.l xs1, .d W, .d (.int n), .d (.tuple (ts.map pairD)), .d (.int far), .l ds, .no, .no, .no, .no]) ?_ (fun k hk => ?_)
  rotate_left
  · array_get_dec
    refine st_ite (fun q => ?_) (fun q => ?_)
    · have q : n = 10 := of_decide_eq_true q
      array_get_dec
      refine st_add_l (by show _ + 3 ≤ 16777216; omega) ?_
      array_get_dec
      exact hk _ ⟨_, ok.add (.cons (e := .put []) (.putM ⟨.nil, fun z hz => (nomatch hz)⟩ q) (.cons (e := .put [0, 9]) (.putM ⟨by simp, fun z hz => by simp at hz; omega⟩ q) (.one (e := .put [0, 10]) (.putP (by simp) fun w => by have := w.lt 10 (by simp); omega)))), by rw [List.length_append]; show _ + 3 ≤ 503; omega, rfl⟩
    · array_get_dec
      exact hk _ ⟨ds, ok, by omega, rfl⟩
  clear ok hl ds
  rintro s ⟨ds, ok, hl, rfl⟩
  array_get_dec
  refine st_ite (fun q => ?_) (fun q => ?_)
  · have q : n = 0 := of_decide_eq_true q
    array_get_dec
    refine st_append (by show _ < 16777216; omega) ?_
    array_get_dec
    exact h _ xs1 hc1 (ok.add (.one (e := .drop) (.drop q)))
  · array_get_dec
    exact h ds xs1 hc1 ok
theorem eqv_told {n : Int} {ts : List (Int × Int)} {c : Int} {v : Int × Int} {L : Lay} : PyData.eqv (toldD n ts c v L) (toldD n ts c v L) = true := by
  show (PyData.eqv (webD n ts) (webD n ts) && (PyData.eqv (pairD v) (pairD v) && (PyData.eqvAll (L.map entD) (L.map entD) && (PyData.eqv (.int c) (.int c) && true)))) = true
  have h2 : PyData.eqv (pairD v) (pairD v) = true := by
    have := eqv_ints [v.1, v.2] [v.1, v.2]
    rw [decide_eq_true rfl] at this
    exact this
  rw [eqv_web, h2, eqv_rows]
  simp [PyData.eqv]
theorem shaped_told {n : Int} {ts : List (Int × Int)} {c : Int} {v : Int × Int} {L : Lay} : SeqAt.shaped (toldD n ts c v L) = true := by
  obtain ⟨h1, h2⟩ := lay_rows L
  have h3 := depth_pairs ts
  have h4 : (webD n ts).canLay0 = true := canLay_web
  unfold SeqAt.shaped
  have e : (toldD n ts c v L).canLay0 = true := by
    show (PyData.tuple [webD n ts, pairD v, .list (L.map entD), .int c]).canLay0 = true
    simp [PyData.canLay0, PyData.canLayAll0, webD, pairD, canLay_pairs, h1]
  rw [e]
  simp [webD, pairD, PyData.depth, PyData.depthAll]
  omega
theorem st_ne_told {n : Int} {ts : List (Int × Int)} {c : Int} {v : Int × Int} {L : Lay} {k : R → Prop} (h : k (.d (.bool false))) : cNe (toldD n ts c v L) (toldD n ts c v L) k := by
  refine st_ne (x := toldD n ts c v L) (y := toldD n ts c v L) shaped_told shaped_told ?_
  show k (.d (.bool (!PyData.eqv (toldD n ts c v L) (toldD n ts c v L))))
  rw [eqv_told]
  exact h
theorem law_holds : ∀ ns : List Int, ns.length ≤ 63 → (∀ z ∈ ns, Builtin.Int.intBits z ≤ 1048576) → m_law [.d (litD ns)] (fun _ _ => False) (fun r _ => r = .d (.bool true)) := by
  intro ns hns _
  unfold m_law b_law
  refine st_sem rfl ?_
  refine st_join (fun s => s = [.d (litD ns), .l [litD ns, .int 0, .int 0], .no, .no, .no, .no, .no, .no, .no, .no, .no]) ?_ (fun k hk => by array_get_dec; exact hk _ rfl)
  rintro s rfl
  refine st_join (fun s => ∃ ds, (∀ d ∈ ds, okB 4 d = true ∧ webB d = false) ∧ ds.length ≤ 8 ∧ s = [.d (litD ns), .l [litD ns, .int 0, .int 0], .l ds, .no, .no, .no, .no, .no, .no, .no, .no]) ?_ (fun k hk => by
    array_get_dec
    refine hk _ ⟨_, fun d hd => ?_, by show 8 ≤ 8; decide, rfl⟩
    simp only [List.mem_cons, List.not_mem_nil, or_false] at hd
    rcases hd with rfl | rfl | rfl | rfl | rfl | rfl | rfl | rfl <;> exact ⟨rfl, rfl⟩)
  rintro s ⟨ds, hds, dl, rfl⟩
  refine st_join (fun s => s = [.d (litD ns), .l [litD ns, .int 0, .int 0], .l ds, .no, .no, .no, .no, .no, .no, .no, .no]) ?_ (fun k hk => ?_)
  rotate_left
  · array_get_dec
    refine st_add_l (by show _ + 1 ≤ 16777216; omega) ?_
    array_get_dec
    refine loop_for (fun l s => (∀ d ∈ l, okB 4 d = true ∧ webB d = false) ∧ s = [.d (litD ns), .l [litD ns, .int 0, .int 0], .l ds, .no, .no, .no, .no, .no, .no, .no, .no]) ?_ ?_ _ _ ⟨fun d hd => ?_, rfl⟩
    · rintro s ⟨_, rfl⟩
      exact hk _ rfl
    · rintro d l s kk ⟨hl, rfl⟩ hkk
      obtain ⟨h1, h2⟩ := hl d List.mem_cons_self
      array_get_dec
      refine word_web h1 h2 ?_
      array_get_dec
      exact hkk _ ⟨fun d hd => hl d (List.mem_cons_of_mem _ hd), rfl⟩
    · rcases List.mem_append.mp hd with hd | hd
      · exact hds d hd
      · rw [List.mem_singleton.mp hd]
        exact ⟨rfl, rfl⟩
  rintro s rfl
  refine st_join (fun s => ∃ xs, s = [.d (litD ns), .l xs, .l ds, .no, .no, .no, .no, .no, .no, .no, .no]) ?_ (fun k hk => ?_)
  · rintro s ⟨xs, rfl⟩
    array_get_dec
    rfl
  · array_get_dec
    refine ⟨by decide, ?_⟩
    array_get_dec
    refine loop_range1 (hi := 3) (fun i s => ∃ xs : List D, s = [.d (litD ns), .l xs, .l ds, .no, .no, .no, .no, .no, .no, .no, .no] ∧ Cup ns (1000 * (4 - i).toNat + 100) xs) (fun s ⟨xs, e, hc⟩ => hk s ⟨xs, e⟩) ?_ ⟨_, rfl, 0, 0, rfl, by decide, by decide⟩
    rintro i s k2 hi hin ⟨xs, rfl, hc⟩ hk2
    refine st_nm ?_
    refine st_join (fun s => ∃ xs : List D, s = [.d (litD ns), .l xs, .l ds, .no, .d (.int i), .no, .no, .no, .no, .no, .no] ∧ Cup ns (1000 * (4 - i).toNat + 100) xs) ?_ (fun k3 hk3 => ?_)
    rotate_left
    · array_get_dec
      refine st_ite (fun q => ?_) (fun q => ?_)
      · have hc' := hc
        obtain ⟨a, v, rfl, ha, hb⟩ := hc
        array_get_dec
        refine st_ite (fun q2 => ?_) (fun q2 => ?_)
        · array_get_dec
          exact hk _ ⟨_, rfl⟩
        · array_get_dec
          exact hk3 _ ⟨_, rfl, hc'⟩
      · array_get_dec
        exact hk3 _ ⟨_, rfl, hc⟩
    rintro s ⟨xs, rfl, hc⟩
    refine st_join (fun s => ∃ n ts xs, Good n ts ∧ Cup ns (1000 * (4 - (i + 1)).toNat + 900) xs ∧ s = [.d (litD ns), .l xs, .l ds, .no, .d (.int i), .d (webD n ts), .no, .no, .no, .no, .no]) ?_ (fun k hk => by
      array_get_dec
      refine e_web_ok (F := 1000 * (4 - (i + 1)).toNat + 900) (hc.less (by omega)) (by decide) (by decide) fun n ts xs1 hc1 g hn => ?_
      array_get_dec
      exact hk _ ⟨n, ts, xs1, g, hc1, rfl⟩)
    rintro s ⟨n, ts, xs1, g, hc1, rfl⟩
    refine st_join (fun s => ∃ n ts xs, Good n ts ∧ Cup ns (1000 * (4 - (i + 1)).toNat + 700) xs ∧ s = [.d (litD ns), .l xs, .l ds, .no, .d (.int i), .d (webD n ts), .no, .no, .no, .no, .no]) ?_ (fun k hk => by
      array_get_dec
      refine st_ite (fun q => ?_) (fun q => ?_)
      · array_get_dec
        refine dip_ok (F := 1000 * (4 - (i + 1)).toNat + 850) (hc1.less (by omega)) (by decide) (by decide) fun r xs2 hc2 hr0 hr1 => ?_
        array_get_dec
        have hm : ∃ m : Int, (m = 10 ∨ m = 0) ∧ L2.atI [PyData.int 10, .int 0, .int 0, .int 0, .int 0, .int 0] r = some (.int m) := by
          have : r = 0 ∨ r = 1 ∨ r = 2 ∨ r = 3 ∨ r = 4 ∨ r = 5 := by omega
          rcases this with rfl | rfl | rfl | rfl | rfl | rfl
          · exact ⟨10, .inl rfl, rfl⟩
          all_goals exact ⟨0, .inr rfl, rfl⟩
        obtain ⟨m, hm, em⟩ := hm
        refine st_ix_l em ?_
        array_get_dec
        refine web_of_ok (F := 1000 * (4 - (i + 1)).toNat + 720) (hc2.less (by omega)) (by omega) (by omega) fun us xs3 hc3 g3 => ?_
        array_get_dec
        refine dip_ok (F := 1000 * (4 - (i + 1)).toNat + 700) (hc3.less (by omega)) (by decide) (by decide) fun r2 xs4 hc4 hr2 hr3 => ?_
        array_get_dec
        have hw : ∃ (n' : Int) (ts' : List (Int × Int)), Good n' ts' ∧ L2.atI [PyData.tuple [.int 10, .tuple []], webD m us] r2 = some (webD n' ts') := by
          have : r2 = 0 ∨ r2 = 1 := by omega
          rcases this with rfl | rfl
          · exact ⟨10, [], ⟨by decide, by decide, fun p hp => (nomatch hp), .nil, by decide⟩, rfl⟩
          · exact ⟨m, us, g3, rfl⟩
        obtain ⟨n', ts', g', ew⟩ := hw
        refine st_ix_l ew ?_
        array_get_dec
        exact hk _ ⟨n', ts', xs4, g', hc4, rfl⟩
      · array_get_dec
        exact hk _ ⟨n, ts, xs1, g, hc1.less (by omega), rfl⟩)
    clear g hc1
    rintro s ⟨n, ts, xs1, g, hc1, rfl⟩
    refine st_join (fun s => ∃ v L C, ShOk n ts v L C ∧ s = [.d (litD ns), .l xs1, .l ds, .no, .d (.int i), .d (webD n ts), shO n ts 0 v L C, .no, .no, .no, .no]) ?_ (fun k hk => by
      array_get_dec
      refine sh_init_ok g fun v L C ok => ?_
      array_get_dec
      exact hk _ ⟨v, L, C, ok, rfl⟩)
    rintro s ⟨v, L, C, ok, rfl⟩
    refine st_join (fun s => ∃ n ts c v L C xs, ShOk n ts v L C ∧ Cup ns (1000 * (4 - (i + 1)).toNat + 500) xs ∧ s = [.d (litD ns), .l xs, .l ds, .no, .d (.int i), .d (webD n ts), shO n ts c v L C, .no, .no, .no, .no]) ?_ (fun k hk => ?_)
    rotate_left
    · array_get_dec
      refine st_ite (fun q => ?_) (fun q => ?_)
      · array_get_dec
        refine dip_ok (F := 1000 * (4 - (i + 1)).toNat + 690) (hc1.less (by omega)) (by decide) (by decide) fun r xs2 hc2 hr0 hr1 => ?_
        array_get_dec
        refine ⟨by unfold lim62; omega, ?_⟩
        array_get_dec
        refine loop_range1 (hi := r) (fun t s => ∃ n ts c v L C xs, ShOk n ts v L C ∧ Cup ns (1000 * (4 - (i + 1)).toNat + 500 + 30 * (4 - t).toNat) xs ∧ s = [.d (litD ns), .l xs, .l ds, .no, .d (.int i), .d (webD n ts), shO n ts c v L C, .no, .no, .no, .no]) ?_ ?_ ⟨n, ts, 0, v, L, C, xs2, ok, hc2.less (by omega), rfl⟩
        · rintro s ⟨n, ts, c, v, L, C, xs, ok, hc, rfl⟩
          exact hk _ ⟨n, ts, c, v, L, C, xs, ok, hc.less (by omega), rfl⟩
        · rintro t s kk t0 t1 ⟨n, ts, c, v, L, C, xs, ok, hc, rfl⟩ hkk
          array_get_dec
          refine e_next_ok (F := 1000 * (4 - (i + 1)).toNat + 500 + 30 * (4 - (t + 1)).toNat) (hc.less (by omega)) ok.g (by decide) fun e m us xs3 hc3 st => ?_
          array_get_dec
          refine do_ok ok st fun c' v' L' C' aft => ?_
          array_get_dec
          exact hkk _ ⟨m, us, c', v', L', C', xs3, aft.ok, hc3, rfl⟩
      · array_get_dec
        exact hk _ ⟨n, ts, 0, v, L, C, xs1, ok, hc1.less (by omega), rfl⟩
    clear ok g hc1 v L C n ts
    rintro s ⟨n, ts, c, v, L, C, xs, ok, hc, rfl⟩
    array_get_dec
    refine e_told_ok ?_
    array_get_dec
    refine e_refused_ok (F := 1000 * (4 - (i + 1)).toNat + 400) (hc.less (by omega)) ok.g fun rs xs4 hc4 hrs => ?_
    array_get_dec
    refine loop_for (fun l s => BadRows n ts l ∧ s = [.d (litD ns), .l xs4, .l ds, .no, .d (.int i), .d (webD n ts), shO n ts c v L C, .no, .no, .d (toldD n ts c v L), .no]) ?_ ?_ _ _ ⟨hrs, rfl⟩
    · rintro s ⟨_, rfl⟩
      exact hk2 _ ⟨xs4, rfl, hc4.less (by omega)⟩
    · rintro d l s kk ⟨hl, rfl⟩ hkk
      obtain ⟨e, x, kd, rfl, b⟩ := hl d List.mem_cons_self
      array_get_dec
      refine word_no ok.g b ?_
      array_get_dec
      rw [decide_eq_true rfl]
      array_get_dec
      refine e_told_ok ?_
      array_get_dec
      refine st_ne_told ?_
      array_get_dec
      exact hkk _ ⟨fun d hd => hl d (List.mem_cons_of_mem _ hd), rfl⟩
end Lk51
open PySem PySem.W PySem.Calls PyProof.Rows
set_option maxHeartbeats 0 in
theorem PySem.Challenge.cw_hueshare_k51_deeds_of_a_sharing_refused_holds : PySem.Challenge.rw_hueshare_k51_deeds_of_a_sharing_refused.Holds := by
  w_on; o_law
  refine HandSHeadRun.head_any (r := OpenLaw.row PySem.Challenge.rw_hueshare_k51_deeds_of_a_sharing_refused) (q := view (OpenLaw.row PySem.Challenge.rw_hueshare_k51_deeds_of_a_sharing_refused).prog [56]) (H := Lk51.hk) (ob := Lk51.ob) (M := 9000) (loose := Lk51.nm) (d := HandSHeadRun.topDef (OpenLaw.row PySem.Challenge.rw_hueshare_k51_deeds_of_a_sharing_refused).prog 56) (kwd := []) Lk51.ob_eq
    (by kernel_rfl) (fun s => by kernel_rfl) Lk51.run (by kernel_rfl) (by kernel_rfl) (by kernel_rfl) (by rfl) (by first | assumption | decide +kernel) (by decide +kernel) ⟨rfl, rfl, rfl, rfl, rfl, by decide +kernel⟩ ?hw ?hc
  case hw => w_witness2
  case hc =>
    refine Hs.walk_ofBE (l := PySem.Challenge.rw_hueshare_k51_deeds_of_a_sharing_refused) (n := 63) (k := 23) (ms := [false]) (sem := Lk51.m_law) rfl (by decide) (by kernel_rfl) ⟨rfl, by decide, by decide⟩ ?F Lk51.law_holds
    intro w mg fa h Y G hmg0
    obtain ⟨K, KX, c, ce⟩ := Y
    have hmg : mg ("law" : PySem.Str) = some (.ref fa) := by
      have e : (HandSHeadRun.topDef (OpenLaw.row PySem.Challenge.rw_hueshare_k51_deeds_of_a_sharing_refused).prog 56).name = ("law" : PySem.Str) := by kernel_rfl
      rw [← e]
      exact hmg0
    obtain ⟨fd, hb, hF⟩ := Lk51.facts (P := (PySem.Challenge.rw_hueshare_k51_deeds_of_a_sharing_refused).prog) (w := w) KX G hmg c ce
    exact ⟨K, fd, KX, hb, hF⟩
