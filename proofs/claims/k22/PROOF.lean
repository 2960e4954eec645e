import PyProof.Rows.All
import Wide.All
import OpenK.AllK
import Wide.FinOn
import HandS.ForMost
import HandS.ForExc
import HandS.CallSlots
import HandS.Deep
import HandS.TupAny
import HandS.TupMul
import HandS.TupLe
import HandS.Wide
import HandS.SortInts
import HandS.SortRule
import HandS.Conv
import HandS.IsInst
import HandS.Style
import HandS.SortOrd
import HandS.More
import HandS.HeadHook2
import HandS.EndBits
import HandS.HeadEnd
import HandS.HeadHook1
import HandS.Head0
import HandS.Head1
import HandS.Head2
import HandS.ExcOwn
import HandS.Iter
import HandS.Zip
import HandS.Rev
import KE.GoesEnum
import PyProof.Rows.SortShellAny
import PyProof.ReprRoads
import HandS.SetFor
import HandS.Strs
import HandS.ExcIs
import HandS.ExcValue
import HandS.TupLen
import HandS.WordsDict
import HandS.Finally
import KE.KDictCopyH
import PySem.Challenge.RW_hueshare_k22_whole_hues_told
set_option Elab.async false
set_option linter.all false
set_option maxRecDepth 100000
set_option maxHeartbeats 4000000
set_option exponentiation.threshold 100000
/-! HsA: values without a heap (SV, R), how they stand in the abstract heap (Rp, SlotAt, Rel), and what keeps that. -/
namespace Hs
open PySem PySem.Spec PyProof.Rows L2

abbrev D := PyData
abbrev St := L2.St
/-- what a slot holds: nothing known; a value that nobody changes; a list (rows of lists, a dict) that this slot alone holds; an object of a class with its fields -/
inductive PV where
  | d (x : D) | l (xs : List D) | dc (kvs : List (D × D))
inductive SV where
  | no | d (x : D) | l (xs : List D) | ll (xss : List (List D)) | dc (kvs : List (D × D)) | ob (c : Str) (fs : List (Str × PV)) | tp (ws : List PV)
/-- what an expression gives: a value; something new; what a slot holds -/
inductive R where
  | d (x : D) | own (v : SV) | top (i : Nat)
abbrev S := List SV

def keyD : Key → D
  | .inl i => .int i
  | .inr x => .str x
def keysD (ks : List Key) : D := .tuple (ks.map keyD)

/-- a list of ints that may be the text's own (nobody changes it): told by a dict of one key that no dict has -/
def litD (ns : List Int) : D := .dict [(.none, .list (ns.map .int))]
/-- a caught error of the class of that name -/
def excD (c : Str) : D := .dict [(.none, .str c)]
/-- an object of the class of that name that nobody changes -/
def obD (c : Str) (kvs : List (D × D)) : D := .dict ((.none, .bool true) :: (.none, .str c) :: kvs)
/-- an object's fields as a dict's entries -/
def obK (fs : List (Str × V)) : List (Key × V) := fs.map fun p => (.inr p.1, p.2)
/-- .. on the heap: an error of the class at C, at a -/
def ExV (C a : Addr) : HO := .ext fun h => ∃ (oe : Obj) (vs : Array Value), h.get? a = some oe ∧ Zc (.ref C) none oe ∧ oe.data = .fields vs

mutual
inductive Rp (K : PySem.W.Frag) (H : Hp) : V → PyData → Prop
  | non : Rp K H .non .none
  | bl (b : Bool) : Rp K H (.bl b) (.bool b)
  | int (i : Int) : Rp K H (.int i) (.int i)
  | str (x : Str) : Rp K H (.str x) (.str x)
  | lst {a : Addr} {xs : List V} {ds : List PyData} : Rd H a (.lst xs) → xs.length ≤ sizeLine → RpAll K H xs ds → Rp K H (.ref a) (.list ds)
  | tup {a : Addr} {xs : List V} {ds : List PyData} : H a = some (.tup xs) → xs.length ≤ sizeLine → RpAll K H xs ds → Rp K H (.ref a) (.tuple ds)
  | dcK {a : Addr} {ks : List (Key × V)} {kvs : List (PyData × PyData)} : Rd H a (.dK ks) → RpK K H ks kvs → Rp K H (.ref a) (.dict kvs)
  | dcT {a : Addr} {ks : List (List Key × V)} {kvs : List (PyData × PyData)} : H a = some (.dT ks) → RpT K H ks kvs → Rp K H (.ref a) (.dict ((.none, .none) :: kvs))
  | lit {a : Addr} {ns : List Int} : SqL K H a (ns.map V.int) → ns.length ≤ sizeLine → Rp K H (.ref a) (litD ns)
  | exc {a : Addr} {c : Str} : H a = some (ExV (He.ga K c) a) → Rp K H (.ref a) (excD c)
  | obj {a dx : Addr} {c : Str} {fs : List (Str × V)} {kvs : List (PyData × PyData)} : H a = some (.ins (He.ga K c) dx fs) → H dx = some (.own a) → RpK K H (obK fs) kvs → Rp K H (.ref a) (.dict ((.none, .bool true) :: (.none, .str c) :: kvs))
inductive RpAll (K : PySem.W.Frag) (H : Hp) : List V → List PyData → Prop
  | nil : RpAll K H [] []
  | cons {v : V} {vs : List V} {d : PyData} {ds : List PyData} : Rp K H v d → RpAll K H vs ds → RpAll K H (v :: vs) (d :: ds)
inductive RpK (K : PySem.W.Frag) (H : Hp) : List (Key × V) → List (PyData × PyData) → Prop
  | nil : RpK K H [] []
  | cons {k : Key} {v : V} {ks : List (Key × V)} {d : PyData} {kvs : List (PyData × PyData)} : Rp K H v d → RpK K H ks kvs → RpK K H ((k, v) :: ks) ((keyD k, d) :: kvs)
inductive RpT (K : PySem.W.Frag) (H : Hp) : List (List Key × V) → List (PyData × PyData) → Prop
  | nil : RpT K H [] []
  | cons {k : List Key} {v : V} {ks : List (List Key × V)} {d : PyData} {kvs : List (PyData × PyData)} : Rp K H v d → RpT K H ks kvs → RpT K H ((k, v) :: ks) ((keysD k, d) :: kvs)
end

theorem same_sqT {K : PySem.W.Frag} {H H' : Hp} {a : Addr} {xs : List V} (e : Same H H') (h : SqT K H a xs) : SqT K H' a xs := by
  rcases h with (h | ⟨o, h⟩) | h
  · exact .inl (.inl (e _ _ h))
  · exact .inl (.inr ⟨o, e _ _ h⟩)
  · exact .inr h
theorem tupSq {K : PySem.W.Frag} {H : Hp} {a : Addr} {xs : List V} (h : H a = some (.tup xs)) : SqT K H a xs := .inl (.inl h)
theorem same_rd {H H' : Hp} {a : Addr} {u : HO} (e : Same H H') (h : Rd H a u) : Rd H' a u := by
  rcases h with h | ⟨o, h⟩
  · exact .inl (e _ _ h)
  · exact .inr ⟨o, e _ _ h⟩

section
variable {K : PySem.W.Frag} {H H' : Hp}
mutual
theorem Rp.mono (e : Same H H') : ∀ (d : PyData) (v : V), Rp K H v d → Rp K H' v d
  | .none, _, .non => .non
  | .bool _, _, .bl b => .bl b
  | .int _, _, .int i => .int i
  | .str _, _, .str x => .str x
  | .list ds, _, .lst h z a => .lst (same_rd e h) z (RpAll.mono e ds _ a)
  | .tuple ds, _, .tup h z a => .tup (e _ _ h) z (RpAll.mono e ds _ a)
  | .dict kvs, _, .dcK h a => .dcK (same_rd e h) (RpK.mono e kvs _ a)
  | .dict ((.none, .none) :: kvs), _, .dcT h a => .dcT (e _ _ h) (RpT.mono e kvs _ a)
  | _, _, .lit h z => .lit (e.seq h) z
  | _, _, .exc h => .exc (e _ _ h)
  | .dict ((.none, .bool true) :: (.none, .str _) :: kvs), _, .obj h1 h2 a => .obj (e _ _ h1) (e _ _ h2) (RpK.mono e kvs _ a)
theorem RpAll.mono (e : Same H H') : ∀ (ds : List PyData) (vs : List V), RpAll K H vs ds → RpAll K H' vs ds
  | [], _, .nil => .nil
  | d :: ds, _, .cons h a => .cons (Rp.mono e d _ h) (RpAll.mono e ds _ a)
theorem RpK.mono (e : Same H H') : ∀ (kvs : List (PyData × PyData)) (ks : List (Key × V)), RpK K H ks kvs → RpK K H' ks kvs
  | [], _, .nil => .nil
  | (_, d) :: kvs, _, .cons h a => .cons (Rp.mono e d _ h) (RpK.mono e kvs _ a)
theorem RpT.mono (e : Same H H') : ∀ (kvs : List (PyData × PyData)) (ks : List (List Key × V)), RpT K H ks kvs → RpT K H' ks kvs
  | [], _, .nil => .nil
  | (_, d) :: kvs, _, .cons h a => .cons (Rp.mono e d _ h) (RpT.mono e kvs _ a)
end
theorem Rp.same {v : V} {d : D} (r : Rp K H v d) (e : Same H H') : Rp K H' v d := Rp.mono e d v r
theorem RpAll.same {vs : List V} {ds : List D} (r : RpAll K H vs ds) (e : Same H H') : RpAll K H' vs ds := RpAll.mono e ds vs r
theorem RpK.same {ks : List (Key × V)} {kvs : List (D × D)} (r : RpK K H ks kvs) (e : Same H H') : RpK K H' ks kvs := RpK.mono e kvs ks r
theorem RpT.same {ks : List (List Key × V)} {kvs : List (D × D)} (r : RpT K H ks kvs) (e : Same H H') : RpT K H' ks kvs := RpT.mono e kvs ks r
theorem RpAll.length : ∀ {vs : List V} {ds : List D}, RpAll K H vs ds → vs.length = ds.length
  | _, _, .nil => rfl
  | _, _, .cons _ a => congrArg (· + 1) (RpAll.length a)
theorem RpAll.append : ∀ {vs ws : List V} {ds es : List D}, RpAll K H vs ds → RpAll K H ws es → RpAll K H (vs ++ ws) (ds ++ es)
  | _, _, _, _, .nil, b => b
  | _, _, _, _, .cons h a, b => .cons h (RpAll.append a b)
theorem RpAll.get : ∀ {vs : List V} {ds : List D} {i : Nat} {d : D}, RpAll K H vs ds → ds[i]? = some d → ∃ v, vs[i]? = some v ∧ Rp K H v d
  | _, _, _, _, .nil, e => by simp at e
  | _, _, 0, _, .cons h _, e => by
    cases e
    exact ⟨_, rfl, h⟩
  | _, _, i + 1, _, .cons _ a, e => RpAll.get (i := i) a e
theorem RpAll.getV : ∀ {vs : List V} {ds : List D} {i : Nat} {v : V}, RpAll K H vs ds → vs[i]? = some v → ∃ d, ds[i]? = some d ∧ Rp K H v d
  | _, _, _, _, .nil, e => by simp at e
  | _, _, 0, _, .cons h _, e => by
    cases e
    exact ⟨_, rfl, h⟩
  | _, _, i + 1, _, .cons _ a, e => RpAll.getV (i := i) a e
theorem RpAll.take : ∀ {vs : List V} {ds : List D} (n : Nat), RpAll K H vs ds → RpAll K H (vs.take n) (ds.take n)
  | _, _, 0, _ => .nil
  | _, _, _ + 1, .nil => .nil
  | _, _, n + 1, .cons h a => .cons h (RpAll.take n a)
theorem RpAll.drop : ∀ {vs : List V} {ds : List D} (n : Nat), RpAll K H vs ds → RpAll K H (vs.drop n) (ds.drop n)
  | _, _, 0, a => a
  | _, _, _ + 1, .nil => .nil
  | _, _, n + 1, .cons _ a => RpAll.drop n a
theorem RpAll.set {v : V} {d : D} (r : Rp K H v d) : ∀ {vs : List V} {ds : List D} (i : Nat), RpAll K H vs ds → RpAll K H (vs.set i v) (ds.set i d)
  | _, _, _, .nil => .nil
  | _, _, 0, .cons _ a => .cons r a
  | _, _, i + 1, .cons h a => .cons h (RpAll.set r i a)
theorem RpAll.ints : ∀ {vs : List V} {ns : List Int}, RpAll K H vs (ns.map PyData.int) → vs = ns.map V.int
  | _, [], .nil => rfl
  | _, n :: ns, .cons (.int _) a => by rw [RpAll.ints a]; rfl
theorem RpAll.of_ints : ∀ ns : List Int, RpAll K H (ns.map V.int) (ns.map PyData.int)
  | [] => .nil
  | n :: ns => .cons (.int n) (RpAll.of_ints ns)
theorem RpAll.bools : ∀ {vs : List V} {ns : List Bool}, RpAll K H vs (ns.map PyData.bool) → vs = ns.map V.bl
  | _, [], .nil => rfl
  | _, n :: ns, .cons (.bl _) a => by rw [RpAll.bools a]; rfl
theorem RpAll.strs : ∀ {vs : List V} {ns : List Str}, RpAll K H vs (ns.map PyData.str) → vs = ns.map V.str
  | _, [], .nil => rfl
  | _, n :: ns, .cons (.str _) a => by rw [RpAll.strs a]; rfl
theorem RpAll.of_strs : ∀ ns : List Str, RpAll K H (ns.map V.str) (ns.map PyData.str)
  | [] => .nil
  | n :: ns => .cons (.str n) (RpAll.of_strs ns)
end

/-- rows of lists, each held by no other -/
inductive LL (K : PySem.W.Frag) (Z H : Hp) : List Addr → List (List D) → Prop
  | nil : LL K Z H [] []
  | cons {q : Addr} {vs : List V} {qs : List Addr} {xs : List D} {xss : List (List D)} : H q = some (.lst vs) → vs.length ≤ sizeLine → RpAll K Z vs xs → LL K Z H qs xss → LL K Z H (q :: qs) (xs :: xss)

def DcAt (K : PySem.W.Frag) (Z H : Hp) (p : Addr) (kvs : List (D × D)) : Prop :=
  (∃ ks, H p = some (.dK ks) ∧ RpK K Z ks kvs) ∨ ∃ ks kvs', kvs = (.none, .none) :: kvs' ∧ H p = some (.dT ks) ∧ RpT K Z ks kvs'
/-- the parts of a tuple that one slot alone holds -/
def PartAt (K : PySem.W.Frag) (Z H : Hp) (v : V) : PV → List Addr → Prop
  | .d x, F => F = [] ∧ Rp K Z v x
  | .l xs, F => ∃ p vs, v = .ref p ∧ F = [p] ∧ H p = some (.lst vs) ∧ vs.length ≤ sizeLine ∧ RpAll K Z vs xs
  | .dc kvs, F => ∃ p, v = .ref p ∧ F = [p] ∧ DcAt K Z H p kvs
inductive TpAt (K : PySem.W.Frag) (Z H : Hp) : List V → List PV → List Addr → Prop
  | nil : TpAt K Z H [] [] []
  | cons {v : V} {w : PV} {F G : List Addr} {vs : List V} {ws : List PV} : PartAt K Z H v w F → TpAt K Z H vs ws G → TpAt K Z H (v :: vs) (w :: ws) (F ++ G)
def PV.asD : PV → D
  | .d x => x
  | .l xs => .list xs
  | .dc kvs => .dict kvs

/-- how a slot's content stands; F: the addresses that it alone holds -/
def SlotAt (K : PySem.W.Frag) (Z H : Hp) (v : Option V) : SV → List Addr → Prop
  | .no, F => F = []
  | .d x, F => F = [] ∧ ∃ u, v = some u ∧ Rp K Z u x
  | .l xs, F => ∃ p vs, v = some (.ref p) ∧ F = [p] ∧ H p = some (.lst vs) ∧ vs.length ≤ sizeLine ∧ RpAll K Z vs xs
  | .ll xss, F => ∃ p qs, v = some (.ref p) ∧ F = p :: qs ∧ H p = some (.lst (qs.map V.ref)) ∧ qs.length ≤ sizeLine ∧ LL K Z H qs xss
  | .dc kvs, F => ∃ p, v = some (.ref p) ∧ F = [p] ∧ DcAt K Z H p kvs
  | .ob c fs, F => ∃ p dx vs G, v = some (.ref p) ∧ F = p :: dx :: G ∧ H p = some (.ins (He.ga K c) dx ((fs.map (·.1)).zip vs)) ∧ H dx = some (.own p) ∧ TpAt K Z H vs (fs.map (·.2)) G
  | .tp ws, F => ∃ p vs, v = some (.ref p) ∧ Z p = some (.tup vs) ∧ vs.length ≤ sizeLine ∧ TpAt K Z H vs ws F

section
variable {K : PySem.W.Frag} {Z Z' H H' : Hp}
theorem LL.mono (e : Same Z Z') : ∀ {qs : List Addr} {xss : List (List D)}, (∀ a ∈ qs, ∀ o, H a = some o → H' a = some o) → LL K Z H qs xss → LL K Z' H' qs xss
  | _, _, _, .nil => .nil
  | _, _, k, .cons h z a r => .cons (k _ List.mem_cons_self _ h) z (a.same e) (LL.mono e (fun b hb => k b (List.mem_cons_of_mem _ hb)) r)
theorem DcAt.mono {p : Addr} {kvs : List (D × D)} (e : Same Z Z') (kp : ∀ o, H p = some o → H' p = some o) (h : DcAt K Z H p kvs) : DcAt K Z' H' p kvs := by
  rcases h with ⟨ks, e1, r⟩ | ⟨ks, kvs', e0, e1, r⟩
  · exact .inl ⟨ks, kp _ e1, r.same e⟩
  · exact .inr ⟨ks, kvs', e0, kp _ e1, r.same e⟩
theorem DcAt.there {p : Addr} {kvs : List (D × D)} (h : DcAt K Z H p kvs) : H p ≠ none := by
  rcases h with ⟨ks, e1, r⟩ | ⟨ks, kvs', e0, e1, r⟩ <;> (rw [e1]; exact fun z => nomatch z)
theorem PartAt.mono {v : V} {w : PV} {F : List Addr} (e : Same Z Z') (k : ∀ a ∈ F, ∀ o, H a = some o → H' a = some o) (h : PartAt K Z H v w F) : PartAt K Z' H' v w F := by
  cases w with
  | d x => exact ⟨h.1, h.2.same e⟩
  | l xs =>
    obtain ⟨p, vs, h1, h2, h3, h4, h5⟩ := h
    exact ⟨p, vs, h1, h2, k p (by rw [h2]; exact List.mem_cons_self) _ h3, h4, h5.same e⟩
  | dc kvs =>
    obtain ⟨p, h1, h2, h3⟩ := h
    exact ⟨p, h1, h2, h3.mono e (k p (by rw [h2]; exact List.mem_cons_self))⟩
theorem PartAt.there {v : V} {w : PV} {F : List Addr} (h : PartAt K Z H v w F) : ∀ a ∈ F, H a ≠ none := by
  intro a ha
  cases w with
  | d x => rw [h.1] at ha; cases ha
  | l xs =>
    obtain ⟨p, vs, h1, h2, h3, h4, h5⟩ := h
    rw [h2] at ha
    obtain rfl : a = p := by simpa using ha
    rw [h3]; exact fun z => nomatch z
  | dc kvs =>
    obtain ⟨p, h1, h2, h3⟩ := h
    rw [h2] at ha
    obtain rfl : a = p := by simpa using ha
    exact h3.there
theorem TpAt.mono (e : Same Z Z') : ∀ {vs : List V} {ws : List PV} {F : List Addr}, (∀ a ∈ F, ∀ o, H a = some o → H' a = some o) → TpAt K Z H vs ws F → TpAt K Z' H' vs ws F
  | _, _, _, _, .nil => .nil
  | _, _, _, k, .cons h r => .cons (h.mono e fun a ha => k a (List.mem_append.mpr (.inl ha))) (TpAt.mono e (fun a ha => k a (List.mem_append.mpr (.inr ha))) r)
theorem TpAt.there {vs : List V} {ws : List PV} {F : List Addr} (h : TpAt K Z H vs ws F) : ∀ a ∈ F, H a ≠ none := by
  induction h with
  | nil => intro a ha; cases ha
  | cons h r ih =>
    intro a ha
    rcases List.mem_append.mp ha with ha | ha
    · exact h.there a ha
    · exact ih a ha
theorem TpAt.length {vs : List V} {ws : List PV} {F : List Addr} (h : TpAt K Z H vs ws F) : vs.length = ws.length := by
  induction h with
  | nil => rfl
  | cons h r ih => rw [List.length_cons, List.length_cons, ih]
theorem SlotAt.mono {v : Option V} {sv : SV} {F : List Addr} (e : Same Z Z') (k : ∀ a ∈ F, ∀ o, H a = some o → H' a = some o) (h : SlotAt K Z H v sv F) : SlotAt K Z' H' v sv F := by
  cases sv with
  | no => exact h
  | d x =>
    obtain ⟨h1, u, h2, r⟩ := h
    exact ⟨h1, u, h2, r.same e⟩
  | l xs =>
    obtain ⟨p, vs, h1, h2, h3, h4, h5⟩ := h
    exact ⟨p, vs, h1, h2, k p (by rw [h2]; exact List.mem_cons_self) _ h3, h4, h5.same e⟩
  | ll xss =>
    obtain ⟨p, qs, h1, h2, h3, h4, h5⟩ := h
    exact ⟨p, qs, h1, h2, k p (by rw [h2]; exact List.mem_cons_self) _ h3, h4, h5.mono e fun a ha => k a (by rw [h2]; exact List.mem_cons_of_mem _ ha)⟩
  | dc kvs =>
    obtain ⟨p, h1, h2, h3⟩ := h
    exact ⟨p, h1, h2, h3.mono e (k p (by rw [h2]; exact List.mem_cons_self))⟩
  | ob c fs =>
    obtain ⟨p, dx, vs, G, h1, h2, h3, h4, h5⟩ := h
    exact ⟨p, dx, vs, G, h1, h2, k p (by rw [h2]; simp) _ h3, k dx (by rw [h2]; simp) _ h4, h5.mono e fun a ha => k a (by rw [h2]; simp [ha])⟩
  | tp ws =>
    obtain ⟨p, vs, h1, h3, h4, h5⟩ := h
    exact ⟨p, vs, h1, e _ _ h3, h4, h5.mono e k⟩
theorem SlotAt.there {v : Option V} {sv : SV} {F : List Addr} (h : SlotAt K Z H v sv F) : ∀ a ∈ F, H a ≠ none := by
  have LLt : ∀ {qs : List Addr} {xss : List (List D)}, LL K Z H qs xss → ∀ a ∈ qs, H a ≠ none := by
    intro qs xss r
    induction r with
    | nil => intro a ha; cases ha
    | cons h z a r ih =>
      intro b hb
      rcases List.mem_cons.mp hb with rfl | hb
      · rw [h]; exact fun z => nomatch z
      · exact ih b hb
  intro a ha
  cases sv with
  | no => rw [show F = [] from h] at ha; cases ha
  | d x => rw [h.1] at ha; cases ha
  | l xs =>
    obtain ⟨p, vs, h1, h2, h3, h4, h5⟩ := h
    rw [h2] at ha
    obtain rfl : a = p := by simpa using ha
    rw [h3]; exact fun z => nomatch z
  | ll xss =>
    obtain ⟨p, qs, h1, h2, h3, h4, h5⟩ := h
    rw [h2] at ha
    rcases List.mem_cons.mp ha with rfl | ha
    · rw [h3]; exact fun z => nomatch z
    · exact LLt h5 a ha
  | dc kvs =>
    obtain ⟨p, h1, h2, h3⟩ := h
    rw [h2] at ha
    obtain rfl : a = p := by simpa using ha
    exact h3.there
  | ob c fs =>
    obtain ⟨p, dx, vs, G, h1, h2, h3, h4, h5⟩ := h
    rw [h2] at ha
    rcases List.mem_cons.mp ha with rfl | ha
    · rw [h3]; exact fun z => nomatch z
    · rcases List.mem_cons.mp ha with rfl | ha
      · rw [h4]; exact fun z => nomatch z
      · exact h5.there a ha
  | tp ws =>
    obtain ⟨p, vs, h1, h3, h4, h5⟩ := h
    exact h5.there a ha
theorem DcAt.nt {p : Addr} {kvs : List (D × D)} (h : DcAt K Z H p kvs) : ∀ vs, H p ≠ some (.tup vs) := by
  intro vs
  rcases h with ⟨ks, e1, r⟩ | ⟨ks, kvs', e0, e1, r⟩ <;> (rw [e1]; exact fun z => nomatch z)
theorem PartAt.nt {v : V} {w : PV} {F : List Addr} (h : PartAt K Z H v w F) : ∀ a ∈ F, ∀ vs, H a ≠ some (.tup vs) := by
  intro a ha us
  cases w with
  | d x => rw [h.1] at ha; cases ha
  | l xs =>
    obtain ⟨p, vs, h1, h2, h3, h4, h5⟩ := h
    rw [h2] at ha
    obtain rfl : a = p := by simpa using ha
    rw [h3]; exact fun z => nomatch z
  | dc kvs =>
    obtain ⟨p, h1, h2, h3⟩ := h
    rw [h2] at ha
    obtain rfl : a = p := by simpa using ha
    exact h3.nt us
theorem TpAt.nt {vs : List V} {ws : List PV} {F : List Addr} (h : TpAt K Z H vs ws F) : ∀ a ∈ F, ∀ vs, H a ≠ some (.tup vs) := by
  induction h with
  | nil => intro a ha; cases ha
  | cons h r ih =>
    intro a ha
    rcases List.mem_append.mp ha with ha | ha
    · exact h.nt a ha
    · exact ih a ha
theorem SlotAt.nt {v : Option V} {sv : SV} {F : List Addr} (h : SlotAt K Z H v sv F) : ∀ a ∈ F, ∀ vs, H a ≠ some (.tup vs) := by
  have LLt : ∀ {qs : List Addr} {xss : List (List D)}, LL K Z H qs xss → ∀ a ∈ qs, ∀ vs, H a ≠ some (.tup vs) := by
    intro qs xss r
    induction r with
    | nil => intro a ha; cases ha
    | cons h z a r ih =>
      intro b hb us
      rcases List.mem_cons.mp hb with rfl | hb
      · rw [h]; exact fun z => nomatch z
      · exact ih b hb us
  intro a ha us
  cases sv with
  | no => rw [show F = [] from h] at ha; cases ha
  | d x => rw [h.1] at ha; cases ha
  | l xs =>
    obtain ⟨p, vs, h1, h2, h3, h4, h5⟩ := h
    rw [h2] at ha
    obtain rfl : a = p := by simpa using ha
    rw [h3]; exact fun z => nomatch z
  | ll xss =>
    obtain ⟨p, qs, h1, h2, h3, h4, h5⟩ := h
    rw [h2] at ha
    rcases List.mem_cons.mp ha with rfl | ha
    · rw [h3]; exact fun z => nomatch z
    · exact LLt h5 a ha us
  | dc kvs =>
    obtain ⟨p, h1, h2, h3⟩ := h
    rw [h2] at ha
    obtain rfl : a = p := by simpa using ha
    exact h3.nt us
  | ob c fs =>
    obtain ⟨p, dx, vs, G, h1, h2, h3, h4, h5⟩ := h
    rw [h2] at ha
    rcases List.mem_cons.mp ha with rfl | ha
    · rw [h3]; exact fun z => nomatch z
    · rcases List.mem_cons.mp ha with rfl | ha
      · rw [h4]; exact fun z => nomatch z
      · exact h5.nt a ha us
  | tp ws =>
    obtain ⟨p, vs, h1, h3, h4, h5⟩ := h
    exact h5.nt a ha us
end

/-- the state: Z what nobody changes, Y what others hold, H all; σ the slots' values, s what they hold -/
structure OwnF (K : PySem.W.Frag) (Z Y H : Hp) (σ : St) (s : S) (F : Nat → List Addr) : Prop where
  at_ : ∀ i, SlotAt K Z H (σ.getD i none) (s.getD i .no) (F i)
  nd : ∀ i, (F i).Nodup
  dj : ∀ i j a, a ∈ F i → a ∈ F j → i = j
  fr : ∀ i a, a ∈ F i → Z a = none ∧ Y a = none
structure Rel (K : PySem.W.Frag) (Z Y H : Hp) (σ : St) (s : S) : Prop where
  zh : Same Z H
  yh : Same Y H
  zy : ∀ a, Z a ≠ none → Y a = none
  yt : ∀ a vs, Y a ≠ some (.tup vs)
  len : σ.length = s.length
  own : ∃ F, OwnF K Z Y H σ s F

section
variable {K : PySem.W.Frag} {Z Z' Y Y' H H' : Hp} {σ σ' : St} {s s' : S}

/-- the slots put otherwise, some forgotten -/
theorem Rel.re (r : Rel K Z Y H σ s) (f : Nat → Option Nat) (hl : σ'.length = s'.length)
    (h : ∀ k, match f k with | none => s'.getD k .no = .no ∨ ∃ x v, s'.getD k .no = .d x ∧ σ'.getD k none = some v ∧ Rp K Z v x | some j => s'.getD k .no = s.getD j .no ∧ σ'.getD k none = σ.getD j none)
    (inj : ∀ k k' j, f k = some j → f k' = some j → k = k') : Rel K Z Y H σ' s' := by
  obtain ⟨F, o⟩ := r.own
  refine ⟨r.zh, r.yh, r.zy, r.yt, hl, fun k => match f k with | none => [] | some j => F j, fun k => ?_, fun k => ?_, fun k k' a ha ha' => ?_, fun k a ha => ?_⟩
  · have hk := h k
    cases e : f k with
    | none =>
      rw [e] at hk
      rcases hk with hk | ⟨x, v, h1, h2, h3⟩
      · rw [hk]; exact rfl
      · rw [h1]; exact ⟨rfl, v, h2, h3⟩
    | some j =>
      rw [e] at hk
      rw [hk.1, hk.2]
      exact o.at_ j
  · cases e : f k with
    | none => exact .nil
    | some j => exact o.nd j
  · cases e : f k with
    | none => rw [e] at ha; cases ha
    | some j =>
      rw [e] at ha
      cases e' : f k' with
      | none => rw [e'] at ha'; cases ha'
      | some j' =>
        rw [e'] at ha'
        have := o.dj j j' a ha ha'
        subst this
        exact inj k k' j e e'
  · cases e : f k with
    | none => rw [e] at ha; cases ha
    | some j =>
      rw [e] at ha
      exact o.fr j a ha

theorem getD_app_lt {α : Type} {l r : List α} {i : Nat} {d : α} (h : i < l.length) : (l ++ r).getD i d = l.getD i d := by
  rw [List.getD_eq_getElem?_getD, List.getD_eq_getElem?_getD, List.getElem?_append_left h]
theorem getD_app_ge {α : Type} {l r : List α} {i : Nat} {d : α} (h : l.length ≤ i) : (l ++ r).getD i d = r.getD (i - l.length) d := by
  rw [List.getD_eq_getElem?_getD, List.getD_eq_getElem?_getD, List.getElem?_append_right h]
theorem getD_out {α : Type} {l : List α} {i : Nat} {d : α} (h : l.length ≤ i) : l.getD i d = d := by
  rw [List.getD_eq_getElem?_getD, List.getElem?_eq_none h]; rfl
theorem getD_set_self {α : Type} {l : List α} {i : Nat} {d x : α} (h : i < l.length) : (l.set i x).getD i d = x := by
  rw [List.getD_eq_getElem?_getD, List.getElem?_set_self h]; rfl
theorem getD_set_ne {α : Type} {l : List α} {i j : Nat} {d x : α} (h : i ≠ j) : (l.set i x).getD j d = l.getD j d := by
  rw [List.getD_eq_getElem?_getD, List.getD_eq_getElem?_getD, List.getElem?_set_ne h]

/-- the last slots put aside: whatever happens to the others, they stand -/
theorem Rel.frame {ts : St} {us : S} (r : Rel K Z Y H (σ ++ ts) (s ++ us)) (hl : σ.length = s.length) :
    ∃ Y', Same Y Y' ∧ Rel K Z Y' H σ s ∧ (∀ Z1 H1 σ1 s1, Same Z Z1 → Rel K Z1 Y' H1 σ1 s1 → Rel K Z1 Y H1 (σ1 ++ ts) (s1 ++ us)) ∧ ∀ j, ∃ F, SlotAt K Z Y' (ts.getD j none) (us.getD j .no) F := by
  classical
  obtain ⟨F, o⟩ := r.own
  have hl2 : ts.length = us.length := by
    have := r.len
    rw [List.length_append, List.length_append] at this
    omega
  -- what the last slots hold
  refine ⟨fun a => if ∃ i, σ.length ≤ i ∧ a ∈ F i then H a else Y a, fun a q e => ?_, ⟨r.zh, fun a q e => ?_, fun a hz => ?_, fun a vs => ?_, hl, fun i => if i < σ.length then F i else [], fun i => ?_, fun i => ?_, fun i j a ha ha' => ?_, fun i a ha => ?_⟩, ?_⟩
  · show (if _ then _ else _) = _
    split
    · rename_i hc
      obtain ⟨i, _, hi⟩ := hc
      rw [(o.fr i a hi).2] at e; cases e
    · exact e
  · have e : (if ∃ i, σ.length ≤ i ∧ a ∈ F i then H a else Y a) = some q := e
    split at e
    · exact e
    · exact r.yh a q e
  · show (if _ then _ else _) = _
    split
    · rename_i hc
      obtain ⟨i, _, hi⟩ := hc
      exact absurd (o.fr i a hi).1 hz
    · exact r.zy a hz
  · show (if _ then _ else _) ≠ _
    split
    · rename_i hc
      obtain ⟨i, _, hi⟩ := hc
      exact (o.at_ i).nt a hi vs
    · exact r.yt a vs
  · by_cases hi : i < σ.length
    · rw [if_pos hi]
      have := o.at_ i
      rw [getD_app_lt hi, getD_app_lt (by omega)] at this
      exact this
    · rw [if_neg hi, getD_out (l := s) (by omega)]
      exact rfl
  · by_cases hi : i < σ.length
    · rw [if_pos hi]; exact o.nd i
    · rw [if_neg hi]; exact .nil
  · by_cases hi : i < σ.length
    · by_cases hj : j < σ.length
      · rw [if_pos hi] at ha; rw [if_pos hj] at ha'
        exact o.dj i j a ha ha'
      · rw [if_neg hj] at ha'; cases ha'
    · rw [if_neg hi] at ha; cases ha
  · by_cases hi : i < σ.length
    · rw [if_pos hi] at ha
      refine ⟨(o.fr i a ha).1, ?_⟩
      show (if _ then _ else _) = _
      rw [if_neg]
      · exact (o.fr i a ha).2
      · rintro ⟨j, hj, ha'⟩
        have := o.dj i j a ha ha'
        omega
    · rw [if_neg hi] at ha; cases ha
  refine ⟨?_, fun j => ⟨F (σ.length + j), ?_⟩⟩
  rotate_left
  · have q := o.at_ (σ.length + j)
    rw [getD_app_ge (by omega), getD_app_ge (by omega), ← hl, Nat.add_sub_cancel_left] at q
    exact q.mono (Same.refl _) fun a ha ob e => (if_pos ⟨_, Nat.le_add_right _ _, ha⟩ : (if ∃ i, σ.length ≤ i ∧ a ∈ F i then H a else Y a) = H a).trans e
  · intro Z1 H1 σ1 s1 hz r1
    obtain ⟨F1, o1⟩ := r1.own
    have yy : ∀ i, σ.length ≤ i → ∀ a ∈ F i, (if ∃ i, σ.length ≤ i ∧ a ∈ F i then H a else Y a) = H a := fun i hi a ha => if_pos ⟨i, hi, ha⟩
    refine ⟨r1.zh, fun a q e => r1.yh a q ?_, fun a hza => ?_, r.yt, by rw [List.length_append, List.length_append, r1.len, hl2], fun i => if i < σ1.length then F1 i else F (i - σ1.length + σ.length), fun i => ?_, fun i => ?_, fun i j a ha ha' => ?_, fun i a ha => ?_⟩
    · show (if _ then _ else _) = _
      split
      · rename_i hc
        obtain ⟨i, _, hi⟩ := hc
        rw [(o.fr i a hi).2] at e; cases e
      · exact e
    · have q := r1.zy a hza
      have q : (if ∃ i, σ.length ≤ i ∧ a ∈ F i then H a else Y a) = none := q
      split at q
      · rename_i hc
        obtain ⟨i, _, hi⟩ := hc
        exact (o.fr i a hi).2
      · exact q
    · by_cases hi : i < σ1.length
      · rw [if_pos hi, getD_app_lt hi, getD_app_lt (by have := r1.len; omega)]
        exact o1.at_ i
      · rw [if_neg hi, getD_app_ge (by omega), getD_app_ge (by have := r1.len; omega), ← r1.len]
        have q := o.at_ (i - σ1.length + σ.length)
        rw [getD_app_ge (by omega), getD_app_ge (by omega), ← hl, Nat.add_sub_cancel] at q
        refine q.mono hz fun a ha ob e => ?_
        refine r1.yh a ob ?_
        exact (yy _ (by omega) a ha).trans e
    · by_cases hi : i < σ1.length
      · rw [if_pos hi]; exact o1.nd i
      · rw [if_neg hi]; exact o.nd _
    · have cross : ∀ i k, a ∈ F1 i → σ.length ≤ k → a ∈ F k → False := fun i k h1 hk h2 => by
        have q := (o1.fr i a h1).2
        exact (o.at_ k).there a h2 ((yy k hk a h2).symm.trans q)
      by_cases hi : i < σ1.length
      · rw [if_pos hi] at ha
        by_cases hj : j < σ1.length
        · rw [if_pos hj] at ha'; exact o1.dj i j a ha ha'
        · rw [if_neg hj] at ha'; exact (cross i _ ha (by omega) ha').elim
      · rw [if_neg hi] at ha
        by_cases hj : j < σ1.length
        · rw [if_pos hj] at ha'; exact (cross j _ ha' (by omega) ha).elim
        · rw [if_neg hj] at ha'
          have := o.dj _ _ a ha ha'
          omega
    · by_cases hi : i < σ1.length
      · rw [if_pos hi] at ha
        have q := o1.fr i a ha
        refine ⟨q.1, ?_⟩
        have q2 : (if ∃ i, σ.length ≤ i ∧ a ∈ F i then H a else Y a) = none := q.2
        split at q2
        · rename_i hc
          obtain ⟨j, _, hj⟩ := hc
          exact (o.fr j a hj).2
        · exact q2
      · rw [if_neg hi] at ha
        refine ⟨?_, (o.fr _ a ha).2⟩
        cases e : Z1 a with
        | none => rfl
        | some q =>
          have := r1.zy a (by rw [e]; exact fun z => nomatch z)
          exact absurd ((yy _ (by omega) a ha).symm.trans this) ((o.at_ _).there a ha)

/-- the heap and what nobody changes have grown -/
theorem Rel.grow (r : Rel K Z Y H σ s) (hh : Same H H') (hz : Same Z Z') (zh : Same Z' H') (new : ∀ a, H a ≠ none → Z' a = Z a) : Rel K Z' Y H' σ s := by
  obtain ⟨F, o⟩ := r.own
  refine ⟨zh, fun a q e => hh a q (r.yh a q e), fun a hz' => ?_, r.yt, r.len, F, fun i => ?_, o.nd, o.dj, fun i a ha => ?_⟩
  · cases e : Y a with
    | none => rfl
    | some q =>
      have h1 : H a ≠ none := by rw [r.yh a q e]; exact fun z => nomatch z
      rw [new a h1] at hz'
      rw [r.zy a hz'] at e; cases e
  · exact (o.at_ i).mono hz fun a _ ob e => hh a ob e
  · have h1 := (o.at_ i).there a ha
    rw [new a h1]
    exact o.fr i a ha
/-- .. tuples that stand in the heap are taken in -/
theorem Rel.growT (r : Rel K Z Y H σ s) (hz : Same Z Z') (zh : Same Z' H) (new : ∀ a, Z' a = Z a ∨ ∃ vs, H a = some (.tup vs)) : Rel K Z' Y H σ s := by
  obtain ⟨F, o⟩ := r.own
  refine ⟨zh, r.yh, fun a hz' => ?_, r.yt, r.len, F, fun i => (o.at_ i).mono hz fun a _ ob e => e, o.nd, o.dj, fun i a ha => ?_⟩
  · cases e : Y a with
    | none => rfl
    | some q =>
      rcases new a with h | ⟨vs, h⟩
      · rw [h] at hz'
        rw [r.zy a hz'] at e; cases e
      · have := r.yh a q e
        rw [h] at this
        rw [← Option.some.inj this] at e
        exact absurd e (r.yt a vs)
  · rcases new a with h | ⟨vs, h⟩
    · rw [h]
      exact o.fr i a ha
    · exact absurd h ((o.at_ i).nt a ha vs)
theorem same_upd {H : Hp} {p : Addr} {o : HO} (h : H p = none) : Same H (upd H p o) := fun b x e => by
  rw [upd_ne (ne_of_none e h)]
  exact e
theorem Rel.fresh (r : Rel K Z Y H σ s) {p : Addr} (h : H p = none) : Z p = none := r.zh.free h
/-- a new tuple -/
theorem Rel.newZ (r : Rel K Z Y H σ s) {p : Addr} (o : HO) (h : H p = none) : Rel K (upd Z p o) Y (upd H p o) σ s :=
  r.grow (same_upd h) (same_upd (r.fresh h)) (fun a q e => by
    by_cases ha : a = p
    · subst ha; rw [upd_same] at e ⊢; exact e
    · rw [upd_ne ha] at e ⊢; exact r.zh a q e) fun a ha => upd_ne fun e => ha (e ▸ h)
/-- a new thing that nothing speaks of -/
theorem Rel.newH (r : Rel K Z Y H σ s) {p : Addr} (o : HO) (h : H p = none) : Rel K Z Y (upd H p o) σ s :=
  r.grow (same_upd h) (Same.refl _) (r.zh.trans (same_upd h)) fun _ _ => rfl
/-- a new slot behind the others, of new things -/
theorem Rel.push (r : Rel K Z Y H σ s) {v : Option V} {sv : SV} {F : List Addr} (hh : Same H H') (hz : Same Z Z') (zh : Same Z' H') (new : ∀ a, H a ≠ none → Z' a = Z a) (h : SlotAt K Z' H' v sv F) (nd : F.Nodup)
    (fr : ∀ a ∈ F, H a = none ∧ Z' a = none) : Rel K Z' Y H' (σ ++ [v]) (s ++ [sv]) := by
  obtain ⟨G, o⟩ := r.own
  have g := r.grow hh hz zh new
  have hd : ∀ i, ∀ a ∈ F, a ∉ G i := fun i a ha hg => (o.at_ i).there a hg (fr a ha).1
  have o' : OwnF K Z' Y H' σ s G := ⟨fun i => (o.at_ i).mono hz fun a _ ob e => hh a ob e, o.nd, o.dj, fun i a ha => by
    rw [new a ((o.at_ i).there a ha)]
    exact o.fr i a ha⟩
  refine ⟨zh, g.yh, g.zy, g.yt, by rw [List.length_append, List.length_append, r.len]; rfl, fun i => if i = σ.length then F else G i, fun i => ?_, fun i => ?_, fun i j a ha ha' => ?_, fun i a ha => ?_⟩
  · by_cases hi : i = σ.length
    · rw [if_pos hi, getD_app_ge (by omega), getD_app_ge (by have := r.len; omega), hi, Nat.sub_self, ← r.len, Nat.sub_self]
      exact h
    · rw [if_neg hi]
      have q := o'.at_ i
      by_cases hlt : i < σ.length
      · rw [getD_app_lt hlt, getD_app_lt (by have := r.len; omega)]
        exact q
      · rw [getD_out (l := s ++ [sv]) (by rw [List.length_append]; have := r.len; show s.length + 1 ≤ i; omega)]
        rw [getD_out (l := s) (by have := r.len; omega)] at q
        exact q
  · by_cases hi : i = σ.length
    · rw [if_pos hi]; exact nd
    · rw [if_neg hi]; exact o'.nd i
  · by_cases hi : i = σ.length
    · rw [if_pos hi] at ha
      by_cases hj : j = σ.length
      · rw [hi, hj]
      · rw [if_neg hj] at ha'; exact (hd j a ha ha').elim
    · rw [if_neg hi] at ha
      by_cases hj : j = σ.length
      · rw [if_pos hj] at ha'; exact (hd i a ha' ha).elim
      · rw [if_neg hj] at ha'; exact o'.dj i j a ha ha'
  · by_cases hi : i = σ.length
    · rw [if_pos hi] at ha
      refine ⟨(fr a ha).2, ?_⟩
      cases e : Y a with
      | none => rfl
      | some q => exact absurd (fr a ha).1 (by rw [r.yh a q e]; exact fun z => nomatch z)
    · rw [if_neg hi] at ha; exact o'.fr i a ha
theorem Rel.push0 (r : Rel K Z Y H σ s) {v : Option V} {sv : SV} (h : SlotAt K Z H v sv []) : Rel K Z Y H (σ ++ [v]) (s ++ [sv]) :=
  r.push (Same.refl _) (Same.refl _) r.zh (fun _ _ => rfl) h .nil (fun a ha => nomatch ha)
theorem Rel.pushD (r : Rel K Z Y H σ s) {v : V} {x : D} (h : Rp K Z v x) : Rel K Z Y H (σ ++ [some v]) (s ++ [.d x]) := r.push0 ⟨rfl, v, rfl, h⟩
theorem Rel.pushN (r : Rel K Z Y H σ s) {v : Option V} : Rel K Z Y H (σ ++ [v]) (s ++ [.no]) := r.push0 rfl
/-- a new list -/
theorem Rel.newL (r : Rel K Z Y H σ s) {p : Addr} {vs : List V} {xs : List D} (h : H p = none) (hz : vs.length ≤ sizeLine) (a : RpAll K Z vs xs) : Rel K Z Y (upd H p (.lst vs)) (σ ++ [some (.ref p)]) (s ++ [.l xs]) :=
  r.push (F := [p]) (same_upd h) (Same.refl _) (r.zh.trans (same_upd h)) (fun _ _ => rfl) ⟨p, vs, rfl, rfl, upd_same, hz, a⟩ (by simp) fun a ha => by
    obtain rfl : a = p := by simpa using ha
    exact ⟨h, r.fresh h⟩
/-- a new dict -/
theorem Rel.newDc (r : Rel K Z Y H σ s) {p : Addr} {o : HO} {kvs : List (D × D)} (h : H p = none) (a : DcAt K Z (upd H p o) p kvs) : Rel K Z Y (upd H p o) (σ ++ [some (.ref p)]) (s ++ [.dc kvs]) :=
  r.push (F := [p]) (same_upd h) (Same.refl _) (r.zh.trans (same_upd h)) (fun _ _ => rfl) ⟨p, rfl, rfl, a⟩ (by simp) fun a ha => by
    obtain rfl : a = p := by simpa using ha
    exact ⟨h, r.fresh h⟩
/-- what a slot alone holds: nobody else speaks of it -/
theorem OwnF.lone {F : Nat → List Addr} (o : OwnF K Z Y H σ s F) {i j : Nat} {a : Addr} (h : a ∈ F i) (hj : j ≠ i) : a ∉ F j := fun h' => hj (o.dj j i a h' h)
/-- a slot's list is written -/
theorem Rel.write (r : Rel K Z Y H σ s) {i : Nat} {p : Addr} {vs' : List V} {xs xs' : List D} (hs : s.getD i .no = .l xs) (hv : σ.getD i none = some (.ref p)) (hz : vs'.length ≤ sizeLine) (a : RpAll K Z vs' xs') :
    Rel K Z Y (upd H p (.lst vs')) σ (s.set i (.l xs')) := by
  obtain ⟨F, o⟩ := r.own
  have q := o.at_ i
  rw [hs, hv] at q
  obtain ⟨p', vs, h1, h2, h3, h4, h5⟩ := q
  cases h1
  have hi : i < s.length := by
    by_cases h : i < s.length
    · exact h
    · rw [getD_out (by omega)] at hs; cases hs
  have pf := o.fr i p (by rw [h2]; exact List.mem_cons_self)
  refine ⟨fun b x e => ?_, fun b x e => ?_, r.zy, r.yt, by rw [List.length_set]; exact r.len, F, fun j => ?_, o.nd, o.dj, o.fr⟩
  · rw [upd_ne (fun z => by rw [z, pf.1] at e; cases e)]; exact r.zh b x e
  · rw [upd_ne (fun z => by rw [z, pf.2] at e; cases e)]; exact r.yh b x e
  · by_cases hj : i = j
    · subst hj
      rw [getD_set_self hi, hv, h2]
      exact ⟨p, vs', rfl, rfl, upd_same, hz, a⟩
    · rw [getD_set_ne hj]
      refine (o.at_ j).mono (Same.refl _) fun b hb ob e => ?_
      rw [upd_ne]
      · exact e
      · rintro rfl
        exact hj (o.dj i j b (by rw [h2]; exact List.mem_cons_self) hb)
/-- a slot's dict is written -/
theorem Rel.writeDc (r : Rel K Z Y H σ s) {i : Nat} {p : Addr} {ob : HO} {kvs kvs' : List (D × D)} (hs : s.getD i .no = .dc kvs) (hv : σ.getD i none = some (.ref p)) (a : DcAt K Z (upd H p ob) p kvs') :
    Rel K Z Y (upd H p ob) σ (s.set i (.dc kvs')) := by
  obtain ⟨F, o⟩ := r.own
  have q := o.at_ i
  rw [hs, hv] at q
  obtain ⟨p', h1, h2, h3⟩ := q
  cases h1
  have hi : i < s.length := by
    by_cases h : i < s.length
    · exact h
    · rw [getD_out (by omega)] at hs; cases hs
  have pf := o.fr i p (by rw [h2]; exact List.mem_cons_self)
  refine ⟨fun b x e => ?_, fun b x e => ?_, r.zy, r.yt, by rw [List.length_set]; exact r.len, F, fun j => ?_, o.nd, o.dj, o.fr⟩
  · rw [upd_ne (fun z => by rw [z, pf.1] at e; cases e)]; exact r.zh b x e
  · rw [upd_ne (fun z => by rw [z, pf.2] at e; cases e)]; exact r.yh b x e
  · by_cases hj : i = j
    · subst hj
      rw [getD_set_self hi, hv, h2]
      exact ⟨p, rfl, rfl, a⟩
    · rw [getD_set_ne hj]
      refine (o.at_ j).mono (Same.refl _) fun b hb oo e => ?_
      rw [upd_ne]
      · exact e
      · rintro rfl
        exact hj (o.dj i j b (by rw [h2]; exact List.mem_cons_self) hb)

/-- what a slot's content is as a value -/
def asD : SV → Option D
  | .d x => some x
  | .l xs => some (.list xs)
  | .ll xss => some (.list (xss.map .list))
  | .dc kvs => some (.dict kvs)
  | .tp ws => some (.tuple (ws.map PV.asD))
  | .ob c fs => some (obD c (fs.map fun p => (.str p.1, p.2.asD)))
  | .no => none
theorem DcAt.rp {p : Addr} {kvs : List (D × D)} (h : DcAt K Z H p kvs) (e : Same Z H) : Rp K H (.ref p) (.dict kvs) := by
  rcases h with ⟨ks, e1, r⟩ | ⟨ks, kvs', e0, e1, r⟩
  · exact .dcK (.inl e1) (r.same e)
  · rw [e0]; exact .dcT e1 (r.same e)
theorem PartAt.rp {v : V} {w : PV} {F : List Addr} (h : PartAt K Z H v w F) (e : Same Z H) : Rp K H v w.asD := by
  cases w with
  | d x => exact h.2.same e
  | l xs =>
    obtain ⟨p, vs, h1, h2, h3, h4, h5⟩ := h
    rw [h1]
    exact .lst (.inl h3) h4 (h5.same e)
  | dc kvs =>
    obtain ⟨p, h1, h2, h3⟩ := h
    rw [h1]
    exact h3.rp e
theorem TpAt.all {vs : List V} {ws : List PV} {F : List Addr} (h : TpAt K Z H vs ws F) (e : Same Z H) : RpAll K H vs (ws.map PV.asD) := by
  induction h with
  | nil => exact .nil
  | cons h r ih => exact .cons (h.rp e) ih
theorem TpAt.keys (e : Same Z H) : ∀ {fs : List (Str × PV)} {vs : List V} {F : List Addr}, TpAt K Z H vs (fs.map (·.2)) F → RpK K H (obK ((fs.map (·.1)).zip vs)) (fs.map fun p => (.str p.1, p.2.asD))
  | [], _, _, .nil => .nil
  | (n, w) :: fs, _, _, .cons h r => .cons (k := .inr n) (h.rp e) (TpAt.keys e r)
theorem LL.all : ∀ {qs : List Addr} {xss : List (List D)}, LL K Z H qs xss → Same Z H → RpAll K H (qs.map V.ref) (xss.map .list)
  | _, _, .nil, _ => .nil
  | _, _, .cons h z a r, e => .cons (.lst (.inl h) z (a.same e)) (LL.all r e)
theorem SlotAt.asD {v : Option V} {sv : SV} {F : List Addr} {x : D} (h : SlotAt K Z H v sv F) (e : Same Z H) (ha : asD sv = some x) : ∃ u, v = some u ∧ Rp K H u x := by
  cases sv with
  | no => cases ha
  | d y =>
    cases ha
    obtain ⟨_, u, h2, r⟩ := h
    exact ⟨u, h2, r.same e⟩
  | l xs =>
    cases ha
    obtain ⟨p, vs, h1, h2, h3, h4, h5⟩ := h
    exact ⟨_, h1, .lst (.inl h3) h4 (h5.same e)⟩
  | ll xss =>
    cases ha
    obtain ⟨p, qs, h1, h2, h3, h4, h5⟩ := h
    exact ⟨_, h1, .lst (.inl h3) (by rw [List.length_map]; exact h4) (h5.all e)⟩
  | dc kvs =>
    cases ha
    obtain ⟨p, h1, h2, h3⟩ := h
    exact ⟨_, h1, h3.rp e⟩
  | ob c fs =>
    cases ha
    obtain ⟨p, dx, vs, G, h1, h2, h3, h4, h5⟩ := h
    exact ⟨_, h1, .obj h3 h4 (h5.keys e)⟩
  | tp ws =>
    cases ha
    obtain ⟨p, vs, h1, h3, h4, h5⟩ := h
    exact ⟨_, h1, .tup (e _ _ h3) h4 (h5.all e)⟩
/-- nobody changes any more what a slot held alone -/
theorem Rel.freeze (r : Rel K Z Y H σ s) {i : Nat} {x : D} (ha : Hs.asD (s.getD i .no) = some x) :
    ∃ Z', Same Z Z' ∧ Rel K Z' Y H σ (s.set i (.d x)) := by
  classical
  obtain ⟨F, o⟩ := r.own
  have hi : i < s.length := by
    by_cases h : i < s.length
    · exact h
    · rw [getD_out (by omega)] at ha; cases ha
  let Z' : Hp := fun a => if a ∈ F i then H a else Z a
  have hz : Same Z Z' := fun a q e => by
    show (if _ then _ else _) = _
    rw [if_neg (fun h => by rw [(o.fr i a h).1] at e; cases e)]
    exact e
  have zh : Same Z' H := fun a q e => by
    have e : (if a ∈ F i then H a else Z a) = some q := e
    split at e
    · exact e
    · exact r.zh a q e
  refine ⟨Z', hz, zh, r.yh, fun a ha => ?_, r.yt, by rw [List.length_set]; exact r.len, fun j => if j = i then [] else F j, fun j => ?_, fun j => ?_, fun j k a ha ha' => ?_, fun j a ha => ?_⟩
  · have e : (if a ∈ F i then H a else Z a) ≠ none := ha
    split at e
    · exact (o.fr i a (by assumption)).2
    · exact r.zy a e
  · by_cases hj : j = i
    · subst hj
      rw [if_pos rfl, getD_set_self hi]
      -- within Z' alone
      have q := o.at_ j
      have q' : SlotAt K Z' Z' (σ.getD j none) (s.getD j .no) (F j) := q.mono hz fun a ha ob e => by
        show (if _ then _ else _) = _
        rw [if_pos ha]; exact e
      obtain ⟨u, h1, h2⟩ := q'.asD (Same.refl _) ha
      exact ⟨rfl, u, h1, h2⟩
    · rw [if_neg hj, getD_set_ne (Ne.symm hj)]
      exact (o.at_ j).mono hz fun a _ ob e => e
  · by_cases hj : j = i
    · rw [if_pos hj]; exact .nil
    · rw [if_neg hj]; exact o.nd j
  · by_cases hj : j = i
    · rw [if_pos hj] at ha; cases ha
    · rw [if_neg hj] at ha
      by_cases hk : k = i
      · rw [if_pos hk] at ha'; cases ha'
      · rw [if_neg hk] at ha'; exact o.dj j k a ha ha'
  · by_cases hj : j = i
    · rw [if_pos hj] at ha; cases ha
    · rw [if_neg hj] at ha
      refine ⟨?_, (o.fr j a ha).2⟩
      show (if _ then _ else _) = _
      rw [if_neg (o.lone ha (Ne.symm hj))]
      exact (o.fr j a ha).1
end
end Hs
/-! HsS: what a text does, over values without a heap: predicate transformers of slots. -/
namespace Hs
open PySem

abbrev XF := Str → S → Prop
abbrev FE := XF → S → (R → S → Prop) → Prop
abbrev FT := XF → S → (Bool → S → Prop) → Prop
abbrev FA := XF → S → (List R → S → Prop) → Prop
abbrev FO := XF → S → (Option Int → S → Prop) → Prop
structure FEnds where
  nx : S → Prop
  rt : R → S → Prop
  bk : S → Prop := fun _ => False
  ct : S → Prop := fun _ => False
  xx : XF
abbrev FS := FEnds → S → Prop
abbrev FG := D → S → (S → Prop) → Prop
abbrev FI := XF → S → (List D → S → Prop) → Prop
/-- a def: its arguments' slots; what is wanted of an error and of an answer, with the arguments' slots as they end -/
abbrev FSem := List SV → XF → (R → S → Prop) → Prop
abbrev V1 := D → (R → Prop) → Prop
abbrev V2 := D → D → (R → Prop) → Prop
abbrev VN := List D → (R → Prop) → Prop

def svR : R → SV
  | .d x => .d x
  | .own v => v
  | .top _ => .no
/-- a slot's content as a value that may be looked at -/
def viewS : SV → Option D
  | .d x => some x
  | .l xs => some (.list xs)
  | .dc kvs => some (.dict kvs)
  | _ => none
def viewR (s : S) : R → Option D
  | .d x => some x
  | .own v => viewS v
  | .top i => viewS (s.getD i .no)
def look (s : S) (r : R) (k : D → Prop) : Prop :=
  match viewR s r with
  | some d => k d
  | none => False
/-- .. that nobody changes from now on -/
def frz (r : R) (s : S) (k : D → S → Prop) : Prop :=
  match r with
  | .d x => k x s
  | .own v => match asD v with
    | some x => k x s
    | none => False
  | .top i => match asD (s.getD i .no) with
    | some x => k x (s.set i (.d x))
    | none => False
def frzAll : List R → S → (List D → S → Prop) → Prop
  | [], s, k => k [] s
  | r :: rs, s, k => frz r s fun x s1 => frzAll rs s1 fun xs s2 => k (x :: xs) s2

/-! ### expressions -/
def fVar (i : Nat) : FE := fun _ s Q =>
  match s.getD i .no with
  | .no => False
  | .d x => Q (.d x) s
  | _ => Q (.top i) s
def fC (x : D) : FE := fun _ s Q => Q (.d x) s
def fNil : FA := fun _ s Q => Q [] s
def fCons (a : FE) (r : FA) : FA := fun X s Q => a X s fun x s1 => r X s1 fun xs s2 => Q (x :: xs) s2
def fTup (a : FA) : FE := fun X s Q => a X s fun rs s1 => frzAll rs s1 fun ds s2 => Q (.d (.tuple ds)) s2
def fLst (a : FA) : FE := fun X s Q => a X s fun rs s1 => frzAll rs s1 fun ds s2 => Q (.own (.l ds)) s2
def fOp (g : V2) (a b : FE) : FE := fun X s Q => a X s fun r1 s1 => b X s1 fun r2 s2 => look s2 r1 fun d => look s2 r2 fun e => g d e fun r => Q r s2
def fUn (g : V1) (a : FE) : FE := fun X s Q => a X s fun r1 s1 => look s1 r1 fun d => g d fun r => Q r s1
/-- a built-in called with values that it looks at -/
def fBlt (g : VN) (a : FA) : FE := fun X s Q => a X s fun rs s1 => lookAll s1 rs fun ds => g ds fun r => Q r s1
where lookAll (s : S) : List R → (List D → Prop) → Prop
  | [], k => k []
  | r :: rs, k => look s r fun d => lookAll s rs fun ds => k (d :: ds)
def isB (r : R) (k : Bool → Prop) : Prop :=
  match r with
  | .d (.bool b) => k b
  | _ => False
def fAndV (a b : FE) : FE := fun X s Q => a X s fun r s1 => isB r fun c => if c = true then b X s1 Q else Q (.d (.bool false)) s1
def fOrV (a b : FE) : FE := fun X s Q => a X s fun r s1 => isB r fun c => if c = true then Q (.d (.bool true)) s1 else b X s1 Q
def fNotV (a : FE) : FE := fun X s Q => a X s fun r s1 => isB r fun c => Q (.d (.bool (!c))) s1
def fIfE (t : FT) (a b : FE) : FE := fun X s Q => t X s fun c s1 => if c = true then a X s1 Q else b X s1 Q
/-- a < b < c -/
def fChain (g g' : V2) (a b c : FE) : FE := fun X s Q => a X s fun r1 s1 => b X s1 fun r2 s2 => look s2 r1 fun d => look s2 r2 fun e => g d e fun r => isB r fun k =>
  if k = true then c X s2 fun r3 s3 => look s3 r2 fun e' => look s3 r3 fun h => g' e' h fun z => Q z s3 else Q (.d (.bool false)) s2
def fNoPart : FO := fun _ s Q => Q none s
def fPart (a : FE) : FO := fun X s Q => a X s fun r s1 => match r with
  | .d (.int i) => Q (some i) s1
  | _ => False
def fSl (g : D → Option Int → Option Int → (R → Prop) → Prop) (a : FE) (lo hi : FO) : FE := fun X s Q => a X s fun r s1 => lo X s1 fun l s2 => hi X s2 fun h s3 => look s3 r fun d => g d l h fun z => Q z s3

/-! ### tests -/
def fB (a : FE) : FT := fun X s Q => a X s fun r s1 => isB r fun c => Q c s1
def fAnd (t u : FT) : FT := fun X s Q => t X s fun c s1 => if c = true then u X s1 Q else Q false s1
def fOr (t u : FT) : FT := fun X s Q => t X s fun c s1 => if c = true then Q true s1 else u X s1 Q
def fNot (t : FT) : FT := fun X s Q => t X s fun c s1 => Q (!c) s1
def fYes : FT := fun _ s Q => Q true s

/-! ### calls -/
def bindA : List Bool → List R → S → (List SV → S → Prop) → Prop
  | [], [], s, k => k [] s
  | false :: ms, r :: rs, s, k => frz r s fun x s1 => bindA ms rs s1 fun svs s2 => k (.d x :: svs) s2
  | true :: ms, .top i :: rs, s, k => bindA ms rs (s.set i .no) fun svs s2 => k (s.getD i .no :: svs) s2
  | true :: ms, .d x :: rs, s, k => bindA ms rs s fun svs s2 => k (.d x :: svs) s2
  | true :: ms, .own v :: rs, s, k => bindA ms rs s fun svs s2 => k (v :: svs) s2
  | _, _, _, _ => False
/-- what the slots that were lent hold behind the call -/
def putB : List Bool → List R → S → S → S
  | true :: ms, .top i :: rs, f :: fin, s => putB ms rs fin (s.set i f)
  | _ :: ms, _ :: rs, _ :: fin, s => putB ms rs fin s
  | _, _, _, s => s
def fCall (sem : FSem) (ms : List Bool) (a : FA) : FE := fun X s Q => a X s fun rs s1 => bindA ms rs s1 fun svs s2 => sem svs (fun n fin => X n (putB ms rs fin s2)) fun r fin => Q r (putB ms rs fin s2)

/-! ### comprehensions -/
def wipeS (s : S) : List Nat → S
  | [] => s
  | i :: is => wipeS (s.set i .no) is
def fComp (X : XF) (g : FG) (wp : List Nat) (t : FT) (e : FE) (Q : R → S → Prop) : List D → List D → S → Prop
  | [], acc, s => Q (.own (.l acc)) s
  | x :: xs, acc, s => g x s fun s1 => t X s1 fun b s2 => if b = true then e X s2 fun r s3 => frz r s3 fun d s4 => fComp X g wp t e Q xs (acc ++ [d]) (wipeS s4 wp) else fComp X g wp t e Q xs acc (wipeS s2 wp)
def fLc (it : FI) (g : FG) (wp : List Nat) (t : FT) (e : FE) : FE := fun X s Q => it X s fun xs s1 => xs.length ≤ sizeLine ∧ fComp (fun _ _ => False) g wp t e Q xs [] (wipeS s1 wp)

/-! ### what is walked -/
def iSeq (a : FE) : FI := fun X s Q => a X s fun r s1 => frz r s1 fun d s2 => match d with
  | .list xs => Q xs s2
  | .tuple xs => Q xs s2
  | _ => False
def lim62 (i : Int) : Prop := -(2 ^ 62) ≤ i ∧ i < 2 ^ 62
def rangeD (lo : Int) (n : Nat) : List D := (List.range n).map fun (k : Nat) => PyData.int (lo + (k : Int))
def iRange1 (a : FA) : FI := fun X s Q => a X s fun rs s1 => match rs with
  | [.d (.int j)] => lim62 j ∧ Q (rangeD 0 j.toNat) s1
  | _ => False
def iRange2 (a : FA) : FI := fun X s Q => a X s fun rs s2 => match rs with
  | [.d (.int i), .d (.int j)] => lim62 i ∧ lim62 j ∧ Q (rangeD i (j - i).toNat) s2
  | _ => False
def enumD (xs : List D) : List D := xs.zipIdx.map fun p => .tuple [.int (p.2 : Nat), p.1]
def iEnum (a : FA) : FI := fun X s Q => a X s fun rs s1 => frzAll rs s1 fun ds s2 => match ds with
  | [.list xs] => Q (enumD xs) s2
  | [.tuple xs] => Q (enumD xs) s2
  | _ => False
def zipD (xs ys : List D) : List D := List.zipWith (fun x y => .tuple [x, y]) xs ys
def iZip (a : FA) : FI := fun X s Q => a X s fun rs s1 => frzAll rs s1 fun ds s4 => match ds with
  | [.list xs, .list ys] => Q (zipD xs ys) s4
  | [.tuple xs, .list ys] => Q (zipD xs ys) s4
  | [.list xs, .tuple ys] => Q (zipD xs ys) s4
  | [.tuple xs, .tuple ys] => Q (zipD xs ys) s4
  | _ => False

/-! ### targets -/
def gNm (i : Nat) : FG := fun d s k => k (s.set i (.d d))
def gTp : List FG → FG := fun gs d s k => match d with
  | .tuple xs => gTps gs xs s k
  | _ => False
where gTps : List FG → List D → S → (S → Prop) → Prop
  | [], [], s, k => k s
  | g :: gs, x :: xs, s, k => g x s fun s1 => gTps gs xs s1 k
  | _, _, _, _ => False

/-! ### statements -/
def fNext : FS := fun E s => E.nx s
def fSeq (a b : FS) : FS := fun E s => a { E with nx := fun s1 => b E s1 } s
def fIfS (t : FT) (a b : FS) : FS := fun E s => t E.xx s fun c s1 => if c = true then a E s1 else b E s1
def fRet (a : FE) : FS := fun E s => a E.xx s E.rt
def fRetN : FS := fun E s => E.rt (.d .none) s
def fBreak : FS := fun E s => E.bk s
def fDrop (a : FE) : FS := fun E s => a E.xx s fun _ s1 => E.nx s1
def fRaise (n : Str) : FS := fun E s => E.xx n s
def putR (i : Nat) (r : R) (s : S) (k : S → Prop) : Prop :=
  match r with
  | .d x => k (s.set i (.d x))
  | .own v => k (s.set i v)
  | .top j => match asD (s.getD j .no) with
    | some x => k ((s.set j (.d x)).set i (.d x))
    | none => False
def fAsg (i : Nat) (a : FE) : FS := fun E s => a E.xx s fun r s1 => putR i r s1 E.nx
/-- a, b = e -/
def fUnp (g : FG) (a : FE) : FS := fun E s => a E.xx s fun r s1 => frz r s1 fun d s2 => g d s2 E.nx
/-- a, b = e1, e2 -/
def fPar (i j : Nat) (a : FA) : FS := fun E s => a E.xx s fun rs s2 => match rs with
  | [r1, r2] => frz r1 s2 fun d1 s3 => frz r2 s3 fun d2 s4 => E.nx ((s4.set i (.d d1)).set j (.d d2))
  | _ => False
def fLoop (g : FG) (wp : List Nat) (b : FS) (E : FEnds) : List D → S → Prop
  | [], s => E.nx s
  | x :: xs, s => g x s fun s1 => b { E with nx := fun s2 => fLoop g wp b E xs (wipeS s2 wp), ct := fun s2 => fLoop g wp b E xs (wipeS s2 wp), bk := fun s2 => E.nx (wipeS s2 wp) } s1
def fFor (it : FI) (g : FG) (wp : List Nat) (b : FS) : FS := fun E s => it E.xx s fun xs s1 => fLoop g wp b E xs (wipeS s1 wp)
def fWhileN (wp : List Nat) (t : FT) (b : FS) (E : FEnds) : Nat → S → Prop
  | 0, _ => False
  | n + 1, s => t E.xx s fun c s1 => if c = true then b { E with nx := fun s2 => fWhileN wp t b E n (wipeS s2 wp), ct := fun s2 => fWhileN wp t b E n (wipeS s2 wp), bk := fun s2 => E.nx (wipeS s2 wp) } s1 else E.nx s1
def fWhile (wp : List Nat) (t : FT) (b : FS) : FS := fun E s => ∃ n, fWhileN wp t b E n (wipeS s wp)

/-- a list of a slot's own, changed by a method -/
def onL (i : Nat) (s : S) (k : List D → Prop) : Prop :=
  match s.getD i .no with
  | .l xs => k xs
  | _ => False
abbrev LM := List D → List D → (D → List D → Prop) → Prop
/-- a method of a slot's own list: what it gives, what the list holds behind it -/
def fLm (i : Nat) (g : LM) (a : FA) : FE := fun X s Q => onL i s fun _ => a X s fun rs s1 => frzAll rs s1 fun ds s2 => onL i s2 fun xs => g xs ds fun d xs' => Q (.d d) (s2.set i (.l xs'))
def mAppend : LM := fun xs ds k => match ds with
  | [d] => xs.length < sizeLine ∧ k .none (xs ++ [d])
  | _ => False
def mExtend : LM := fun xs ds k => match ds with
  | [.list ys] => xs.length + ys.length ≤ sizeLine ∧ k .none (xs ++ ys)
  | _ => False
def mInsert : LM := fun xs ds k => match ds with
  | [.int j, d] => xs.length < sizeLine ∧ 0 ≤ j ∧ j < 2 ^ 63 ∧ k .none (xs.take j.toNat ++ [d] ++ xs.drop j.toNat)
  | _ => False
def mPopAt : LM := fun xs ds k => match ds with
  | [.int j] => 0 ≤ j ∧ j < 2 ^ 63 ∧ match xs[j.toNat]? with
    | some d => k d (xs.eraseIdx j.toNat)
    | none => False
  | _ => False
def mClear : LM := fun _ ds k => match ds with
  | [] => k .none []
  | _ => False
/-- xs[j] = e -/
def fSetIx (i : Nat) (j a : FE) : FS := fun E s => a E.xx s fun r s1 => onL i s1 fun _ => j E.xx s1 fun rj s2 => match rj with
  | .d (.int k) => frz r s2 fun d s3 => onL i s3 fun xs => 0 ≤ k ∧ k.toNat < xs.length ∧ E.nx (s3.set i (.l (xs.set k.toNat d)))
  | _ => False

/-! ### a def's body -/
def outR (r : R) (s : S) (k : R → S → Prop) : Prop :=
  match r with
  | .d x => k (.d x) s
  | .own v => k (.own v) s
  | .top i => k (.own (s.getD i .no)) (s.set i .no)
def semOf (np nl : Nat) (b : FS) : FSem := fun svs X Q => b { nx := fun s => Q (.d .none) (s.take np), rt := fun r s => outR r s fun r' s' => Q r' (s'.take np), xx := fun n s => X n (s.take np) } (svs ++ List.replicate (nl - np) .no)
end Hs
/-! HsB: the judgements of the pure layer over those of the layer HandS, and the rules for expressions. -/
namespace Hs
open PySem PySem.Spec PyProof.Rows L2

section
variable {K : PySem.W.Frag} {Z Z' Y Y' H H' : Hp} {σ σ' : St} {s s' : S}

theorem Rel.take {ts : St} {us : S} (r : Rel K Z Y H (σ ++ ts) (s ++ us)) (hl : σ.length = s.length) : Rel K Z Y H σ s :=
  r.re (fun k => if k < σ.length then some k else none) hl (fun k => by
    by_cases h : k < σ.length
    · simp only [if_pos h]
      exact ⟨(getD_app_lt (by omega)).symm, (getD_app_lt h).symm⟩
    · simp only [if_neg h]
      exact .inl (getD_out (by omega))) (fun k k' j h h' => by
    by_cases a : k < σ.length
    · by_cases b : k' < σ.length
      · rw [if_pos a] at h; rw [if_pos b] at h'; cases h; cases h'; rfl
      · rw [if_neg b] at h'; cases h'
    · rw [if_neg a] at h; cases h)
theorem Rel.swap {σa σb σc : St} {sa sb sc : S} (r : Rel K Z Y H (σa ++ σb ++ σc) (sa ++ sb ++ sc)) (ha : σa.length = sa.length) (hb : σb.length = sb.length) : Rel K Z Y H (σa ++ σc ++ σb) (sa ++ sc ++ sb) := by
  have hl := r.len
  simp only [List.length_append] at hl
  refine r.re (fun k => if k < σa.length then some k else if k < σa.length + σc.length then some (k + σb.length) else if k < σa.length + σc.length + σb.length then some (k - σc.length) else none)
    (by simp only [List.length_append]; omega) (fun k => ?_) fun k k' j h h' => ?_
  · by_cases h1 : k < σa.length
    · simp only [if_pos h1]
      refine ⟨?_, ?_⟩
      · rw [List.append_assoc, List.append_assoc, getD_app_lt (by omega), getD_app_lt (by omega)]
      · rw [List.append_assoc, List.append_assoc, getD_app_lt h1, getD_app_lt h1]
    · simp only [if_neg h1]
      by_cases h2 : k < σa.length + σc.length
      · simp only [if_pos h2]
        refine ⟨?_, ?_⟩
        · rw [getD_app_lt (l := sa ++ sc) (by rw [List.length_append]; omega), getD_app_ge (by omega), getD_app_ge (by rw [List.length_append]; omega), List.length_append]
          congr 1; omega
        · rw [getD_app_lt (l := σa ++ σc) (by rw [List.length_append]; omega), getD_app_ge (by omega), getD_app_ge (by rw [List.length_append]; omega), List.length_append]
          congr 1; omega
      · simp only [if_neg h2]
        by_cases h3 : k < σa.length + σc.length + σb.length
        · simp only [if_pos h3]
          refine ⟨?_, ?_⟩
          · rw [getD_app_ge (l := sa ++ sc) (by rw [List.length_append]; omega), List.append_assoc sa sb sc, getD_app_ge (l := sa) (by omega), getD_app_lt (l := sb) (by omega), List.length_append]
            congr 1; omega
          · rw [getD_app_ge (l := σa ++ σc) (by rw [List.length_append]; omega), List.append_assoc σa σb σc, getD_app_ge (l := σa) (by omega), getD_app_lt (l := σb) (by omega), List.length_append]
            congr 1; omega
        · simp only [if_neg h3]
          exact .inl (getD_out (by simp only [List.length_append]; omega))
  · split at h <;> split at h' <;> (try split at h) <;> (try split at h') <;> (try split at h) <;> (try split at h') <;> (try cases h) <;> (try injection h with h) <;> (try injection h' with h') <;> (try omega) <;> (try cases h')
    all_goals omega

/-! ### what comes of an expression -/
def Tops (σ : St) (vs : List V) (rs : List R) : Prop := ∀ (k i : Nat), rs[k]? = some (R.top i) → i < σ.length ∧ σ.getD i none = vs[k]?
structure RelX (K : PySem.W.Frag) (Z Y H : Hp) (σ : St) (s : S) (vs : List V) (rs : List R) : Prop where
  rel : Rel K Z Y H (σ ++ vs.map some) (s ++ rs.map svR)
  l1 : σ.length = s.length
  l2 : vs.length = rs.length
  top : Tops σ vs rs
theorem RelX.rel0 {vs : List V} {rs : List R} (r : RelX K Z Y H σ s vs rs) : Rel K Z Y H σ s := r.rel.take r.l1
theorem RelX.nil (r : Rel K Z Y H σ s) : RelX K Z Y H σ s [] [] := ⟨by simpa using r, r.len, rfl, fun k i h => by simp at h⟩
theorem Tops.one {v : V} {r : R} (h : ∀ i, r = .top i → i < σ.length ∧ σ.getD i none = some v) : Tops σ [v] [r] := fun k i e => by
  cases k with
  | zero => exact h i (by simpa using e)
  | succ k => simp at e
theorem RelX.d (r : Rel K Z Y H σ s) {v : V} {x : D} (h : Rp K Z v x) : RelX K Z Y H σ s [v] [.d x] :=
  ⟨r.pushD h, r.len, rfl, .one fun i e => nomatch e⟩
theorem RelX.tp (r : Rel K Z Y H σ s) {v : V} {i : Nat} (hi : i < σ.length) (h : σ.getD i none = some v) : RelX K Z Y H σ s [v] [.top i] :=
  ⟨r.pushN, r.len, rfl, .one fun j e => by cases e; exact ⟨hi, h⟩⟩
theorem RelX.own {v : V} {w : SV} (hl : σ.length = s.length) (r : Rel K Z Y H (σ ++ [some v]) (s ++ [w])) : RelX K Z Y H σ s [v] [.own w] :=
  ⟨r, hl, rfl, .one fun i e => nomatch e⟩
/-- results put aside while others come -/
theorem RelX.frame {vs : List V} {rs : List R} (r : RelX K Z Y H σ s vs rs) :
    ∃ Y', Same Y Y' ∧ Rel K Z Y' H σ s ∧ (∀ Z1 H1 σ1 s1, Same Z Z1 → Rel K Z1 Y' H1 σ1 s1 → Rel K Z1 Y H1 σ1 s1) ∧
      (∀ Z1 H1 s1 ws qs, Same Z Z1 → RelX K Z1 Y' H1 σ s1 ws qs → RelX K Z1 Y H1 σ s1 (vs ++ ws) (rs ++ qs)) := by
  obtain ⟨Y', hy, r1, back, _⟩ := r.rel.frame r.l1
  refine ⟨Y', hy, r1, fun Z1 H1 σ1 s1 hz q => (back Z1 H1 σ1 s1 hz q).take q.len, fun Z1 H1 s1 ws qs hz q => ?_⟩
  have b := back Z1 H1 _ _ hz q.rel
  refine ⟨?_, q.l1, by rw [List.length_append, List.length_append, r.l2, q.l2], fun k i e => ?_⟩
  · rw [List.map_append, List.map_append, ← List.append_assoc, ← List.append_assoc]
    exact b.swap q.l1 (by rw [List.length_map, List.length_map]; exact q.l2)
  · by_cases hk : k < rs.length
    · rw [List.getElem?_append_left hk] at e
      rw [List.getElem?_append_left (by rw [r.l2]; exact hk)]
      exact r.top k i e
    · rw [List.getElem?_append_right (by omega)] at e
      rw [List.getElem?_append_right (by rw [r.l2]; omega), r.l2]
      exact q.top _ i e

/-! ### looking at what comes -/
/-- a thing looked at: its own items stand in Z -/
def RpV (K : PySem.W.Frag) (Z H : Hp) (v : V) (d : D) : Prop :=
  Rp K Z v d ∨ (∃ p vs xs, v = .ref p ∧ d = .list xs ∧ H p = some (.lst vs) ∧ vs.length ≤ sizeLine ∧ RpAll K Z vs xs) ∨ ∃ p kvs, v = .ref p ∧ d = .dict kvs ∧ DcAt K Z H p kvs
theorem RpV.rp {v : V} {d : D} (r : RpV K Z H v d) (e : Same Z H) : Rp K H v d := by
  rcases r with r | ⟨p, vs, xs, rfl, rfl, h, z, a⟩ | ⟨p, kvs, rfl, rfl, h⟩
  · exact r.same e
  · exact .lst (.inl h) z (a.same e)
  · exact h.rp e
theorem RpV.list {v : V} {xs : List D} (r : RpV K Z H v (.list xs)) (e : Same Z H) : ∃ p vs, v = .ref p ∧ Rd H p (.lst vs) ∧ vs.length ≤ sizeLine ∧ RpAll K Z vs xs := by
  rcases r with r | ⟨p, vs, xs', rfl, e2, h, z, a⟩ | ⟨p, kvs, rfl, e2, h⟩
  · cases r with
    | lst h z a => exact ⟨_, _, rfl, same_rd e h, z, a⟩
  · cases e2; exact ⟨p, vs, rfl, .inl h, z, a⟩
  · cases e2
theorem RpV.tuple {v : V} {xs : List D} (r : RpV K Z H v (.tuple xs)) (e : Same Z H) : ∃ p vs, v = .ref p ∧ SqT K H p vs ∧ vs.length ≤ sizeLine ∧ RpAll K Z vs xs := by
  rcases r with r | ⟨p, vs, xs', rfl, e2, h, z, a⟩ | ⟨p, kvs, rfl, e2, h⟩
  · cases r with
    | tup h z a => exact ⟨_, _, rfl, tupSq (e _ _ h), z, a⟩
  · cases e2
  · cases e2
theorem keyD_ne (k : Key) : keyD k ≠ .none := by
  cases k <;> exact fun h => nomatch h
theorem RpK.nolit {ks : List (Key × V)} {x : D} {r : List (D × D)} (h : RpK K H ks ((.none, x) :: r)) : False := by
  generalize e : ((PyData.none, x) :: r) = l at h
  cases h with
  | nil => cases e
  | cons _ _ =>
    injection e with e1 _
    injection e1 with e2 _
    exact keyD_ne _ e2.symm
theorem RpT.nolit {ks : List (List Key × V)} {x : D} {r : List (D × D)} (h : RpT K H ks ((.none, x) :: r)) : False := by
  generalize e : ((PyData.none, x) :: r) = l at h
  cases h with
  | nil => cases e
  | cons _ _ =>
    injection e with e1 _
    injection e1 with e2 _
    cases e2
theorem RpV.lit {v : V} {xs : List D} (r : RpV K Z H v (.dict [(.none, .list xs)])) (e : Same Z H) : ∃ (p : Addr) (ns : List Int), v = .ref p ∧ xs = ns.map PyData.int ∧ SqL K H p (ns.map V.int) ∧ ns.length ≤ sizeLine := by
  rcases r with r | ⟨p, vs, xs', rfl, e2, h, z, a⟩ | ⟨p, kvs, rfl, e2, h⟩
  · generalize e0 : (PyData.dict [(.none, .list xs)]) = d at r
    cases r with
    | lit h z =>
      unfold litD at e0
      injection e0 with e1
      injection e1 with e2 _
      injection e2 with _ e3
      injection e3 with e4
      exact ⟨_, _, rfl, e4, e.seq h, z⟩
    | exc h =>
      unfold excD at e0
      injection e0 with e1
      injection e1 with e2 _
      injection e2 with _ e3
      cases e3
    | dcK h a => cases e0; exact a.nolit.elim
    | dcT h a => cases e0
    | obj h1 h2 a => cases e0
    | _ => cases e0
  · cases e2
  · cases e2
    rcases h with ⟨ks, e1, r⟩ | ⟨ks, kvs', e0, e1, r⟩
    · exact r.nolit.elim
    · cases e0
theorem RpV.int {v : V} {i : Int} (r : RpV K Z H v (.int i)) : v = .int i := by
  rcases r with r | ⟨p, vs, xs', rfl, e2, h, z, a⟩ | ⟨p, kvs, rfl, e2, h⟩
  · cases r; rfl
  · cases e2
  · cases e2
theorem RpV.bool {v : V} {i : Bool} (r : RpV K Z H v (.bool i)) : v = .bl i := by
  rcases r with r | ⟨p, vs, xs', rfl, e2, h, z, a⟩ | ⟨p, kvs, rfl, e2, h⟩
  · cases r; rfl
  · cases e2
  · cases e2
theorem RpV.str {v : V} {i : Str} (r : RpV K Z H v (.str i)) : v = .str i := by
  rcases r with r | ⟨p, vs, xs', rfl, e2, h, z, a⟩ | ⟨p, kvs, rfl, e2, h⟩
  · cases r; rfl
  · cases e2
  · cases e2
theorem RpV.non {v : V} (r : RpV K Z H v .none) : v = .non := by
  rcases r with r | ⟨p, vs, xs', rfl, e2, h, z, a⟩ | ⟨p, kvs, rfl, e2, h⟩
  · cases r; rfl
  · cases e2
  · cases e2
theorem SlotAt.view {v : Option V} {w : SV} {F : List Addr} {d : D} (h : SlotAt K Z H v w F) (e : viewS w = some d) : ∃ u, v = some u ∧ RpV K Z H u d := by
  cases w with
  | no => cases e
  | d x => cases e; obtain ⟨_, u, h2, r⟩ := h; exact ⟨u, h2, .inl r⟩
  | l xs => cases e; obtain ⟨p, vs, h1, h2, h3, h4, h5⟩ := h; exact ⟨_, h1, .inr (.inl ⟨p, vs, xs, rfl, rfl, h3, h4, h5⟩)⟩
  | ll xss => cases e
  | dc kvs => cases e; obtain ⟨p, h1, h2, h3⟩ := h; exact ⟨_, h1, .inr (.inr ⟨p, kvs, rfl, rfl, h3⟩)⟩
  | ob c fs => cases e
  | tp ws => cases e
theorem Rel.slot (r : Rel K Z Y H σ s) (i : Nat) : ∃ F, SlotAt K Z H (σ.getD i none) (s.getD i .no) F := let ⟨F, o⟩ := r.own; ⟨F i, o.at_ i⟩
theorem RelX.look {vs : List V} {rs : List R} (r : RelX K Z Y H σ s vs rs) {k : Nat} {q : R} {d : D} (hk : rs[k]? = some q) (e : viewR s q = some d) : ∃ v, vs[k]? = some v ∧ RpV K Z H v d := by
  have hlt : k < rs.length := (List.getElem?_eq_some_iff.mp hk).1
  have sl : ∃ F, SlotAt K Z H (vs[k]?) (svR q) F := by
    obtain ⟨F, h⟩ := r.rel.slot (σ.length + k)
    refine ⟨F, ?_⟩
    rw [getD_app_ge (by omega), getD_app_ge (by have := r.l1; omega), ← r.l1, Nat.add_sub_cancel_left] at h
    have e1 : (rs.map svR).getD k .no = svR q := by rw [List.getD_eq_getElem?_getD, List.getElem?_map, hk]; rfl
    have e2 : (vs.map some).getD k none = vs[k]? := by
      rw [List.getD_eq_getElem?_getD, List.getElem?_map]
      cases vs[k]? <;> rfl
    rw [e1, e2] at h
    exact h
  cases q with
  | d x =>
    cases e
    obtain ⟨F, h⟩ := sl
    exact h.view rfl
  | own w =>
    obtain ⟨F, h⟩ := sl
    exact h.view e
  | top i =>
    obtain ⟨_, h1⟩ := r.top k i hk
    obtain ⟨F, h⟩ := r.rel0.slot i
    rw [h1] at h
    exact h.view e

/-! ### what comes of values -/
structure NewR (K : PySem.W.Frag) (Z H Z' H' : Hp) (u : V) (r : R) : Prop where
  hh : Same H H'
  hz : Same Z Z'
  zh : Same Z' H'
  old : ∀ a, H a ≠ none → Z' a = Z a
  val : match r with
    | .d x => Rp K Z' u x
    | .own w => ∃ F : List Addr, SlotAt K Z' H' (some u) w F ∧ F.Nodup ∧ ∀ a ∈ F, H a = none ∧ Z' a = none
    | .top _ => False
theorem NewR.d {u : V} {x : D} (e : Same Z H) (h : Rp K Z u x) : NewR K Z H Z H u (.d x) := ⟨Same.refl _, Same.refl _, e, fun _ _ => rfl, h⟩
theorem NewR.tup {p : Addr} {vs : List V} {xs : List D} (e : Same Z H) (hp : H p = none) (z : vs.length ≤ sizeLine) (h : RpAll K Z vs xs) : NewR K Z H (upd Z p (.tup vs)) (upd H p (.tup vs)) (.ref p) (.d (.tuple xs)) :=
  have zp : Z p = none := e.free hp
  ⟨same_upd hp, same_upd zp, fun b x q => by
    by_cases hb : b = p
    · subst hb; rw [upd_same] at q ⊢; exact q
    · rw [upd_ne hb] at q ⊢; exact e b x q, fun a ha => upd_ne fun z => ha (z ▸ hp), .tup upd_same z (h.same (same_upd zp))⟩
theorem NewR.lst {p : Addr} {vs : List V} {xs : List D} (e : Same Z H) (hp : H p = none) (z : vs.length ≤ sizeLine) (h : RpAll K Z vs xs) : NewR K Z H Z (upd H p (.lst vs)) (.ref p) (.own (.l xs)) :=
  ⟨same_upd hp, Same.refl _, e.trans (same_upd hp), fun _ _ => rfl, [p], ⟨p, vs, rfl, rfl, upd_same, z, h⟩, by simp, fun a ha => by
    obtain rfl : a = p := by simpa using ha
    exact ⟨hp, e.free hp⟩⟩
theorem Rel.new (r : Rel K Z Y H σ s) {u : V} {q : R} (n : NewR K Z H Z' H' u q) : RelX K Z' Y H' σ s [u] [q] := by
  cases q with
  | d x => exact .d (r.grow n.hh n.hz n.zh n.old) n.val
  | own w =>
    obtain ⟨F, h1, h2, h3⟩ := n.val
    exact .own r.len (r.push n.hh n.hz n.zh n.old h1 h2 h3)
  | top i => exact n.val.elim
end

/-! ### the judgements -/
structure Lv where
  E : WX
  io : List Nat
  σ0 : St
def Lv.keeps (L : Lv) (σ : St) : Prop := σ.length = L.σ0.length ∧ ∀ k ∈ L.io, σ.getD k none = L.σ0.getD k none
def XOk (X : Cx) (L : Lv) (Z Y : Hp) (Xf : XF) : Prop := ∀ n C Z' H' σ' s', Same Z Z' → L.keeps σ' → Rel X.K Z' Y H' σ' s' → Xf n s' → X.mg n = some (.ref C) → L.E (.ref C) none σ' H'
theorem XOk.mono {X : Cx} {L : Lv} {Z Z1 Y Y1 : Hp} {Xf : XF} (h : XOk X L Z Y Xf) (hz : Same Z Z1) (back : ∀ Z' H' σ' s', Same Z1 Z' → Rel X.K Z' Y1 H' σ' s' → Rel X.K Z' Y H' σ' s') : XOk X L Z1 Y1 Xf :=
  fun n C Z' H' σ' s' hz' k r q m => h n C Z' H' σ' s' (hz.trans hz') k (back Z' H' σ' s' hz' r) q m
theorem XOk.z {X : Cx} {L : Lv} {Z Z1 Y : Hp} {Xf : XF} (h : XOk X L Z Y Xf) (hz : Same Z Z1) : XOk X L Z1 Y Xf := h.mono hz fun _ _ _ _ _ r => r
def liftE (X : Cx) (L : Lv) (fe : FE) : TE := fun σ H Q => ∃ Z Y s Xf Qf, Rel X.K Z Y H σ s ∧ L.keeps σ ∧ XOk X L Z Y Xf ∧ fe Xf s Qf ∧ ∀ v H' Z' r s', Same Z Z' → RelX X.K Z' Y H' σ s' [v] [r] → Qf r s' → Q v H'
def liftT (X : Cx) (L : Lv) (ft : FT) : TT := fun σ H Q => ∃ Z Y s Xf Qf, Rel X.K Z Y H σ s ∧ L.keeps σ ∧ XOk X L Z Y Xf ∧ ft Xf s Qf ∧ ∀ b H' Z' s', Same Z Z' → Rel X.K Z' Y H' σ s' → Qf b s' → Q b H'
def liftA (X : Cx) (L : Lv) (n : Nat) (fa : FA) : TA := fun σ H Q => ∃ Z Y s Xf Qf, Rel X.K Z Y H σ s ∧ L.keeps σ ∧ XOk X L Z Y Xf ∧ fa Xf s Qf ∧ ∀ vs H' Z' rs s', Same Z Z' → RelX X.K Z' Y H' σ s' vs rs → rs.length = n → Qf rs s' → Q vs H'
structure EndsOk (X : Cx) (L : Lv) (Z Y : Hp) (Ef : FEnds) (D : Ends) : Prop where
  nx : ∀ σ' H' Z' s', Same Z Z' → L.keeps σ' → Rel X.K Z' Y H' σ' s' → Ef.nx s' → D.nx σ' H'
  rt : ∀ v σ' H' Z' r s', Same Z Z' → L.keeps σ' → RelX X.K Z' Y H' σ' s' [v] [r] → Ef.rt r s' → D.rt v H'
  bk : ∀ σ' H' Z' s', Same Z Z' → L.keeps σ' → Rel X.K Z' Y H' σ' s' → Ef.bk s' → D.bk σ' H'
  ct : ∀ σ' H' Z' s', Same Z Z' → L.keeps σ' → Rel X.K Z' Y H' σ' s' → Ef.ct s' → D.ct σ' H'
  xx : XOk X L Z Y Ef.xx
theorem EndsOk.z {X : Cx} {L : Lv} {Z Z1 Y : Hp} {Ef : FEnds} {D : Ends} (h : EndsOk X L Z Y Ef D) (hz : Same Z Z1) : EndsOk X L Z1 Y Ef D :=
  ⟨fun σ' H' Z' s' e => h.nx σ' H' Z' s' (hz.trans e), fun v σ' H' Z' r s' e => h.rt v σ' H' Z' r s' (hz.trans e), fun σ' H' Z' s' e => h.bk σ' H' Z' s' (hz.trans e), fun σ' H' Z' s' e => h.ct σ' H' Z' s' (hz.trans e), h.xx.z hz⟩
def liftS (X : Cx) (L : Lv) (fs : FS) : TS := fun D σ H => ∃ Z Y s Ef, Rel X.K Z Y H σ s ∧ L.keeps σ ∧ fs Ef s ∧ EndsOk X L Z Y Ef D
def PF (X : Cx) (L : Lv) (e : Expr) (fe : FE) : Prop := PE X e (liftE X L fe)
def PFT (X : Cx) (L : Lv) (e : Expr) (ft : FT) : Prop := PT X e (liftT X L ft)
def PFW (X : Cx) (L : Lv) (e : Expr) (ft : FT) : Prop := PW X e (liftT X L ft)
def PFA (X : Cx) (L : Lv) (es : List Expr) (fa : FA) : Prop := PA X es (liftA X L es.length fa)
def PFS (X : Cx) (L : Lv) (st : Stmt) (fs : FS) : Prop := PS X st (liftS X L fs)
def PFSs (X : Cx) (L : Lv) (sts : List Stmt) (fs : FS) : Prop := PSs X sts (liftS X L fs)

section
variable {X : Cx} {L : Lv} {e a b c : Expr} {es : List Expr} {fa fb fc : FE} {fr : FA} {pos p : Pos}
theorem PE_imp {t t' : TE} (h : PE X e t) (hi : ∀ σ H Q, t' σ H Q → t σ H Q) : PE X e t' := ⟨fun pins s σ H Q I q => h.run pins s σ H Q I (hi σ H Q q)⟩
theorem PT_imp {t t' : TT} (h : PT X e t) (hi : ∀ σ H Q, t' σ H Q → t σ H Q) : PT X e t' := ⟨fun pins s σ H Q I q => h.run pins s σ H Q I (hi σ H Q q)⟩
theorem PW_imp {t t' : TT} (h : PW X e t) (hi : ∀ σ H Q, t' σ H Q → t σ H Q) : PW X e t' := ⟨fun w pins s σ H Q I q => h.run w pins s σ H Q I (hi σ H Q q)⟩
theorem PA_imp {t t' : TA} (h : PA X es t) (hi : ∀ σ H Q, t' σ H Q → t σ H Q) : PA X es t' := ⟨fun ps pins s σ H Q I q => h.run ps pins s σ H Q I (hi σ H Q q)⟩
theorem PS_imp {st : Stmt} {t t' : TS} (h : PS X st t) (hi : ∀ D σ H, t' D σ H → t D σ H) : PS X st t' := ⟨fun pins s σ H D I q => h.run pins s σ H D I (hi D σ H q)⟩
theorem PSs_imp {st : List Stmt} {t t' : TS} (h : PSs X st t) (hi : ∀ D σ H, t' D σ H → t D σ H) : PSs X st t' := ⟨fun pins s σ H D I q => h.run pins s σ H D I (hi D σ H q)⟩

theorem getD_some {α : Type} {l : List (Option α)} {i : Nat} {v : α} (h : l.getD i none = some v) : l[i]? = some (some v) := by
  rw [List.getD_eq_getElem?_getD] at h
  cases e : l[i]? with
  | none => rw [e] at h; cases h
  | some o => rw [e] at h; rw [show o = some v from h]
theorem getD_lt {α : Type} {l : List (Option α)} {i : Nat} {v : α} (h : l.getD i none = some v) : i < l.length := (List.getElem?_eq_some_iff.mp (getD_some h)).1

theorem pf_var (i : Nat) {x : Str} (hN : X.N[i]? = some x := by rfl) (hv : Vis X.env.scope x := by first | exact Or.inl rfl | exact Or.inr (Or.inl rfl) | exact Or.inr (Or.inr rfl)) (hd : (x == ("__debug__" : Str)) = false := by decide)
    (hcd : (x == ("__classdict__" : Str)) = false := by decide) : PF X L (.Name x pos) (fVar i) := PE_imp (pe_var hN hv hd hcd) fun σ H Q ⟨Z, Y, s, Xf, Qf, r, k, xo, h, q⟩ => by
  obtain ⟨F, sl⟩ := r.slot i
  unfold fVar at h
  generalize hs : s.getD i .no = w at h sl
  have tp : ∀ p : V, σ.getD i none = some p → Qf (.top i) s → ∃ v, σ[i]? = some (some v) ∧ Q v H := fun p e h => ⟨p, getD_some e, q p H Z _ s (Same.refl _) (.tp r (getD_lt e) e) h⟩
  cases w with
  | no => exact h.elim
  | d x =>
    obtain ⟨_, u, h2, rp⟩ := sl
    exact ⟨u, getD_some h2, q u H Z _ s (Same.refl _) (.d r rp) h⟩
  | l xs => obtain ⟨p, vs, h1, _⟩ := sl; exact tp _ h1 h
  | ll xs => obtain ⟨p, vs, h1, _⟩ := sl; exact tp _ h1 h
  | dc xs => obtain ⟨p, h1, _⟩ := sl; exact tp _ h1 h
  | ob c fs => obtain ⟨p, dx, vs, G, h1, _⟩ := sl; exact tp _ h1 h
  | tp ws => obtain ⟨p, vs, h1, _⟩ := sl; exact tp _ h1 h
theorem pf_C {v : V} {x : D} (h : PE X e (tC v)) (r : ∀ Z, Rp X.K Z v x) : PF X L e (fC x) := PE_imp h fun σ H Q ⟨Z, Y, s, Xf, Qf, rl, k, xo, h, q⟩ => q v H Z _ s (Same.refl _) (.d rl (r Z)) h
theorem pf_int {i : Int} {j pos} : PF X L (.Constant (.int i) j pos) (fC (.int i)) := pf_C pe_int fun _ => .int i
theorem pf_bl {i : Bool} {j pos} : PF X L (.Constant (.bool i) j pos) (fC (.bool i)) := pf_C pe_bl fun _ => .bl i
theorem pf_non {j pos} : PF X L (.Constant .none j pos) (fC .none) := pf_C pe_non fun _ => .non
theorem pf_str {i : Str} {j pos} : PF X L (.Constant (.str i) j pos) (fC (.str i)) := pf_C pe_str fun _ => .str i

/-! ### argument lists -/
theorem pf_nil : PFA X L [] fNil := PA_imp pa_nil fun σ H Q ⟨Z, Y, s, Xf, Qf, r, k, xo, h, q⟩ => q [] H Z [] s (Same.refl _) (.nil r) rfl h
theorem pf_cons (ha : PF X L e fa) (hr : PFA X L es fr) (hs : starEach (e :: es) X.env = (false, eval e X.env) :: starEach es X.env := by rfl) : PFA X L (e :: es) (fCons fa fr) :=
  PA_imp (pa_cons ha hr hs) fun σ H Q ⟨Z, Y, s, Xf, Qf, r, k, xo, h, q⟩ => by
  refine ⟨Z, Y, s, Xf, _, r, k, xo, h, fun v H1 Z1 r1 s1 hz rx h1 => ?_⟩
  obtain ⟨Y', hy, rl, bk, fw⟩ := rx.frame
  refine ⟨Z1, Y', s1, Xf, _, rl, k, (xo.z hz).mono (Same.refl _) bk, h1, fun vs H2 Z2 rs s2 hz2 rx2 hn h2 => ?_⟩
  exact q (v :: vs) H2 Z2 (r1 :: rs) s2 (hz.trans hz2) (fw Z2 H2 s2 vs rs hz2 rx2) (by rw [List.length_cons, hn]; rfl) h2

/-! ### nobody changes what comes -/
theorem frz_ok {K : PySem.W.Frag} {Z Y H : Hp} {σ : St} {s : S} {us vs : List V} {ds : List D} {r : R} {rs : List R} {v : V} {k : D → S → Prop} (rx : RelX K Z Y H σ s (us ++ v :: vs) (ds.map R.d ++ r :: rs)) (hl : us.length = ds.length) (h : frz r s k) :
    ∃ Z' d s', Same Z Z' ∧ RelX K Z' Y H σ s' (us ++ v :: vs) (ds.map R.d ++ .d d :: rs) ∧ k d s' := by
  have hlu : (us.map some).length = (ds.map R.d).length := by rw [List.length_map, List.length_map, hl]
  have ix : ∀ (q : R), (ds.map R.d ++ q :: rs)[us.length]? = some q := fun q => by
    rw [List.getElem?_append_right (by rw [List.length_map, hl]; exact Nat.le_refl _), List.length_map, hl, Nat.sub_self]; rfl
  have iv : (us ++ v :: vs)[us.length]? = some v := by
    rw [List.getElem?_append_right (Nat.le_refl _), Nat.sub_self]; rfl
  have topsD : ∀ d σ', Tops σ (us ++ v :: vs) (ds.map R.d ++ r :: rs) → σ' = σ → Tops σ' (us ++ v :: vs) (ds.map R.d ++ .d d :: rs) := fun d σ' t e k i hk => by
    subst e
    by_cases hk0 : k = us.length
    · subst hk0
      rw [ix] at hk; cases hk
    · have : (ds.map R.d ++ r :: rs)[k]? = (ds.map R.d ++ .d d :: rs)[k]? := by
        by_cases hlt : k < us.length
        · rw [List.getElem?_append_left (by rw [List.length_map]; omega), List.getElem?_append_left (by rw [List.length_map]; omega)]
        · rw [List.getElem?_append_right (by rw [List.length_map]; omega), List.getElem?_append_right (by rw [List.length_map]; omega), List.length_map]
          have : k - ds.length = (k - ds.length - 1) + 1 := by omega
          rw [this]; rfl
      exact t k i (this.trans hk)
  cases r with
  | d x => exact ⟨Z, x, s, Same.refl _, rx, h⟩
  | own w =>
    unfold frz at h
    dsimp only at h
    cases e : asD w with
    | none => rw [e] at h; exact h.elim
    | some x =>
      rw [e] at h
      have sl : (s ++ (ds.map R.d ++ .own w :: rs).map svR).getD (s.length + us.length) .no = w := by
        rw [getD_app_ge (by omega), Nat.add_sub_cancel_left, List.getD_eq_getElem?_getD, List.getElem?_map, ix]; rfl
      obtain ⟨Z', hz, rl⟩ := rx.rel.freeze (i := s.length + us.length) (x := x) (by rw [sl]; exact e)
      refine ⟨Z', x, s, hz, ⟨?_, rx.l1, ?_, topsD x σ rx.top rfl⟩, h⟩
      · have : (s ++ (ds.map R.d ++ .own w :: rs).map svR).set (s.length + us.length) (.d x) = s ++ (ds.map R.d ++ .d x :: rs).map svR := by
          rw [List.set_append_right _ _ (by omega), Nat.add_sub_cancel_left, List.map_append, List.map_append, List.set_append_right _ _ (by simp [hl]), List.length_map, List.length_map, hl, Nat.sub_self]
          rfl
        rw [this] at rl
        exact rl
      · have := rx.l2
        simp only [List.length_append, List.length_cons] at this ⊢
        exact this
  | top i =>
    unfold frz at h
    dsimp only at h
    cases e : asD (s.getD i .no) with
    | none => rw [e] at h; exact h.elim
    | some x =>
      rw [e] at h
      obtain ⟨hi, hv⟩ := rx.top us.length i (ix _)
      rw [iv] at hv
      have his : i < s.length := by rw [← rx.l1]; exact hi
      obtain ⟨Z', hz, rl⟩ := rx.rel.freeze (i := i) (x := x) (by rw [getD_app_lt his]; exact e)
      rw [List.set_append_left _ _ his] at rl
      refine ⟨Z', x, s.set i (.d x), hz, ⟨?_, by rw [List.length_set]; exact rx.l1, ?_, topsD x σ rx.top rfl⟩, h⟩
      · have rpx : Rp K Z' v x := by
          obtain ⟨F, q⟩ := rl.slot i
          rw [getD_app_lt (by omega), getD_app_lt (by rw [List.length_set]; exact his), getD_set_self his, hv] at q
          obtain ⟨_, u, e1, rp⟩ := q
          cases e1
          exact rp
        have hlen : ((s.set i (.d x)) ++ (ds.map R.d ++ .top i :: rs).map svR).length = ((s.set i (.d x)) ++ (ds.map R.d ++ .d x :: rs).map svR).length := by simp
        refine rl.re (fun k => if k = s.length + us.length then none else some k) (by have := rl.len; rw [hlen] at this; exact this) (fun k => ?_) (fun k k' j h h' => ?_)
        · by_cases hk : k = s.length + us.length
          · simp only [if_pos hk]
            refine .inr ⟨x, v, ?_, ?_, rpx⟩
            · rw [hk, getD_app_ge (by rw [List.length_set]; omega), List.length_set, Nat.add_sub_cancel_left, List.getD_eq_getElem?_getD, List.getElem?_map, ix]; rfl
            · rw [hk, getD_app_ge (by have := rx.l1; omega), rx.l1, Nat.add_sub_cancel_left, List.getD_eq_getElem?_getD, List.getElem?_map, iv]; rfl
          · simp only [if_neg hk]
            refine ⟨?_, trivial⟩
            by_cases hlt : k < s.length
            · rw [getD_app_lt (by rw [List.length_set]; exact hlt), getD_app_lt (by rw [List.length_set]; exact hlt)]
            · rw [getD_app_ge (by rw [List.length_set]; omega), getD_app_ge (by rw [List.length_set]; omega), List.length_set, List.map_append, List.map_append]
              by_cases hlt2 : k - s.length < us.length
              · rw [getD_app_lt (by simp; omega), getD_app_lt (by simp; omega)]
              · rw [getD_app_ge (by simp; omega), getD_app_ge (by simp; omega)]
                have : k - s.length - (List.map svR (ds.map R.d)).length = (k - s.length - (List.map svR (ds.map R.d)).length - 1) + 1 := by simp; omega
                rw [this]
                rfl
        · by_cases e1 : k = s.length + us.length
          · rw [if_pos e1] at h; cases h
          · by_cases e2 : k' = s.length + us.length
            · rw [if_pos e2] at h'; cases h'
            · rw [if_neg e1] at h; rw [if_neg e2] at h'; cases h; cases h'; rfl
      · have := rx.l2
        simp only [List.length_append, List.length_cons] at this ⊢
        exact this
theorem frzAll_ok {K : PySem.W.Frag} {Y H : Hp} {σ : St} : ∀ {rs : List R} {vs : List V} {us : List V} {ds : List D} {Z : Hp} {s : S} {k : List D → S → Prop}, RelX K Z Y H σ s (us ++ vs) (ds.map R.d ++ rs) → us.length = ds.length → frzAll rs s k →
    ∃ Z' es s', Same Z Z' ∧ RelX K Z' Y H σ s' (us ++ vs) ((ds ++ es).map R.d) ∧ k es s'
  | [], vs, us, ds, Z, s, k, rx, hl, h => by
    refine ⟨Z, [], s, Same.refl _, ?_, h⟩
    simpa using rx
  | r :: rs, [], us, ds, Z, s, k, rx, hl, h => by
    have := rx.l2
    simp at this
    omega
  | r :: rs, v :: vs, us, ds, Z, s, k, rx, hl, h => by
    obtain ⟨Z1, d, s1, hz, rx1, h1⟩ := frz_ok rx hl h
    have e1 : us ++ v :: vs = (us ++ [v]) ++ vs := by simp
    have e2 : ds.map R.d ++ .d d :: rs = (ds ++ [d]).map R.d ++ rs := by simp
    rw [e1, e2] at rx1
    obtain ⟨Z2, es, s2, hz2, rx2, h2⟩ := frzAll_ok rx1 (by simp [hl]) h1
    refine ⟨Z2, d :: es, s2, hz.trans hz2, ?_, h2⟩
    rw [e1]
    simpa using rx2
theorem RelX.rps {K : PySem.W.Frag} {Z Y H : Hp} {σ : St} {s : S} : ∀ {vs : List V} {ds : List D}, RelX K Z Y H σ s vs (ds.map R.d) → RpAll K Z vs ds := by
  intro vs ds r
  have hl := r.l2
  rw [List.length_map] at hl
  have at_ : ∀ i v d, vs[i]? = some v → ds[i]? = some d → Rp K Z v d := fun i v d h1 h2 => by
    obtain ⟨F, q⟩ := r.rel.slot (σ.length + i)
    rw [getD_app_ge (by omega), getD_app_ge (by have := r.l1; omega), ← r.l1, Nat.add_sub_cancel_left, List.getD_eq_getElem?_getD, List.getD_eq_getElem?_getD, List.getElem?_map, List.getElem?_map, List.getElem?_map, h1, h2] at q
    obtain ⟨_, u, e1, rp⟩ := q
    cases e1
    exact rp
  clear r
  induction vs generalizing ds with
  | nil =>
    cases ds with
    | nil => exact .nil
    | cons d ds => simp at hl
  | cons v vs ih =>
    cases ds with
    | nil => simp at hl
    | cons d ds => exact .cons (at_ 0 v d rfl rfl) (ih (by simpa using hl) fun i v' d' h1 h2 => at_ (i + 1) v' d' h1 h2)

/-! ### displays -/
theorem pf_tup {x1} (ha : PFA X L es fr) (hn : es.length ≤ sizeLine := by show _ ≤ 16777216; decide) : PF X L (.Tuple es x1 pos) (fTup fr) := PE_imp (pe_tup ha) fun σ H Q ⟨Z, Y, s, Xf, Qf, r, k, xo, h, q⟩ => by
  refine ⟨Z, Y, s, Xf, _, r, k, xo, h, fun vs H1 Z1 rs s1 hz rx hl h1 => ?_⟩
  refine ⟨by rw [rx.l2, hl]; exact hn, fun p hp => ?_⟩
  obtain ⟨Z2, ds, s2, hz2, rx2, h2⟩ := frzAll_ok (us := []) (ds := []) rx rfl h1
  have n : NewR X.K Z2 H1 (upd Z2 p (.tup vs)) (upd H1 p (.tup vs)) (.ref p) (.d (.tuple ds)) := .tup rx2.rel0.zh hp (by rw [rx.l2, hl]; exact hn) rx2.rps
  exact q (.ref p) _ _ _ s2 ((hz.trans hz2).trans n.hz) (rx2.rel0.new n) h2
theorem pf_lst (ha : PFA X L es fr) (hn : es.length ≤ sizeLine := by show _ ≤ 16777216; decide) : PF X L (.List es pos) (fLst fr) := PE_imp (pe_lst ha) fun σ H Q ⟨Z, Y, s, Xf, Qf, r, k, xo, h, q⟩ => by
  refine ⟨Z, Y, s, Xf, _, r, k, xo, h, fun vs H1 Z1 rs s1 hz rx hl h1 => ?_⟩
  refine ⟨by rw [rx.l2, hl]; exact hn, fun p hp => ?_⟩
  obtain ⟨Z2, ds, s2, hz2, rx2, h2⟩ := frzAll_ok (us := []) (ds := []) rx rfl h1
  have n : NewR X.K Z2 H1 Z2 (upd H1 p (.lst vs)) (.ref p) (.own (.l ds)) := .lst rx2.rel0.zh hp (by rw [rx.l2, hl]; exact hn) rx2.rps
  exact q (.ref p) _ _ _ s2 ((hz.trans hz2).trans n.hz) (rx2.rel0.new n) h2

/-! ### operators by values -/
def rF2 (K : PySem.W.Frag) (g : V2) : R2 := fun x y H Q => ∃ Z d e Qf, Same Z H ∧ RpV K Z H x d ∧ RpV K Z H y e ∧ g d e Qf ∧ ∀ u H' Z' r, NewR K Z H Z' H' u r → Qf r → Q u H'
def rF1 (K : PySem.W.Frag) (g : V1) : V → Hp → VK → Prop := fun x H Q => ∃ Z d Qf, Same Z H ∧ RpV K Z H x d ∧ g d Qf ∧ ∀ u H' Z' r, NewR K Z H Z' H' u r → Qf r → Q u H'
theorem look_ok {s : S} {r : R} {k : D → Prop} (h : look s r k) : ∃ d, viewR s r = some d ∧ k d := by
  unfold look at h
  cases e : viewR s r with
  | none => rw [e] at h; exact h.elim
  | some d => rw [e] at h; exact ⟨d, rfl, h⟩
theorem fOp_ok {g : V2} {σ : St} {H : Hp} {Q : VK} (h : liftE X L (fOp g fa fb) σ H Q) : tOp (rF2 X.K g) (liftE X L fa) (liftE X L fb) σ H Q := by
  obtain ⟨Z, Y, s, Xf, Qf, r, k, xo, h, q⟩ := h
  refine ⟨Z, Y, s, Xf, _, r, k, xo, h, fun v H1 Z1 r1 s1 hz rx h1 => ?_⟩
  obtain ⟨Y', hy, rl, bk, fw⟩ := rx.frame
  refine ⟨Z1, Y', s1, Xf, _, rl, k, (xo.z hz).mono (Same.refl _) bk, h1, fun w H2 Z2 r2 s2 hz2 rx2 h2 => ?_⟩
  have rx3 := fw Z2 H2 s2 [w] [r2] hz2 rx2
  obtain ⟨d, e1, h3⟩ := look_ok h2
  obtain ⟨e, e2, h4⟩ := look_ok h3
  obtain ⟨v', ev, rv⟩ := rx3.look (k := 0) rfl e1
  obtain ⟨w', ew, rw'⟩ := rx3.look (k := 1) rfl e2
  cases ev; cases ew
  exact ⟨Z2, d, e, _, rx3.rel0.zh, rv, rw', h4, fun u H' Z' r n hq => q u H' Z' r s2 ((hz.trans hz2).trans n.hz) (rx3.rel0.new n) hq⟩
theorem pf_op {op : Operator} {g : V2} (ho : OpR X (binaryOp op) (rF2 X.K g)) (ha : PF X L a fa) (hb : PF X L b fb) : PF X L (.BinOp a op b pos) (fOp g fa fb) := PE_imp (pe_op ho ha hb) fun _ _ _ => fOp_ok
theorem pf_cmp {op : CmpOp} {g : V2} (ho : OpR X (compareOp op) (rF2 X.K g)) (ha : PF X L a fa) (hb : PF X L b fb) (hm : behindInMarks op b = false) : PF X L (.Compare a [op] [b] pos) (fOp g fa fb) := PE_imp (pe_cmpR ho ha hb hm) fun _ _ _ => fOp_ok
theorem fUn_ok {g : V1} {σ : St} {H : Hp} {Q : VK} (h : liftE X L (fUn g fa) σ H Q) : tUn (rF1 X.K g) (liftE X L fa) σ H Q := by
  obtain ⟨Z, Y, s, Xf, Qf, r, k, xo, h, q⟩ := h
  refine ⟨Z, Y, s, Xf, _, r, k, xo, h, fun v H1 Z1 r1 s1 hz rx h1 => ?_⟩
  obtain ⟨d, e1, h3⟩ := look_ok h1
  obtain ⟨v', ev, rv⟩ := rx.look (k := 0) rfl e1
  cases ev
  exact ⟨Z1, d, _, rx.rel0.zh, rv, h3, fun u H' Z' r n hq => q u H' Z' r s1 (hz.trans n.hz) (rx.rel0.new n) hq⟩
theorem pf_un {op : UnaryOp} {g : V1} (ho : UnR X (unaryOp op) (rF1 X.K g)) (ha : PF X L a fa) : PF X L (.UnaryOp op a pos) (fUn g fa) := PE_imp (pe_un ho ha) fun _ _ _ => fUn_ok
theorem pf_ix {g : V2} (hr : IxR X (rF2 X.K g)) (ha : PF X L a fa) (hb : PF X L b fb) (hs : PlainIx b := by exact fun _ _ => rfl) : PF X L (.Subscript a b pos) (fOp g fa fb) := PE_imp (pe_ix hr ha hb hs) fun _ _ _ => fOp_ok
end
end Hs
/-! HsC: tests, statements, loops. -/
namespace Hs
open PySem PySem.Spec PyProof.Rows L2
section
variable {X : Cx} {L : Lv} {e a b c : Expr} {es : List Expr} {fa fb fc : FE} {ft fu : FT} {fr : FA} {pos p : Pos}

theorem isB_ok {r : R} {k : Bool → Prop} (h : isB r k) : ∃ c, r = .d (.bool c) ∧ k c := by
  cases r with
  | d x =>
    cases x with
    | bool c => exact ⟨c, rfl, h⟩
    | _ => exact h.elim
  | _ => exact h.elim
theorem RelX.vd {K : PySem.W.Frag} {Z Y H : Hp} {σ : St} {s : S} {v : V} {x : D} (r : RelX K Z Y H σ s [v] [.d x]) : Rp K Z v x := by
  have q := RelX.rps (ds := [x]) r
  cases q with
  | cons h _ => exact h
theorem RelX.vb {K : PySem.W.Frag} {Z Y H : Hp} {σ : St} {s : S} {v : V} {c : Bool} (r : RelX K Z Y H σ s [v] [.d (.bool c)]) : v = .bl c := by
  have q := r.vd
  cases q
  rfl
theorem RelX.vi {K : PySem.W.Frag} {Z Y H : Hp} {σ : St} {s : S} {v : V} {c : Int} (r : RelX K Z Y H σ s [v] [.d (.int c)]) : v = .int c := by
  have q := r.vd
  cases q
  rfl

/-! ### and, or, not, if as values -/
theorem pf_one {op} (h : PF X L a fa) : PF X L (.BoolOp op [a] pos) fa := pe_one h
theorem pf_and {rest : List Expr} (ha : PF X L a fa) (hb : PF X L (.BoolOp .And (b :: rest) pos) fb) : PF X L (.BoolOp .And (a :: b :: rest) pos) (fAndV fa fb) := PE_imp (pe_and ha hb) fun σ H Q ⟨Z, Y, s, Xf, Qf, r, k, xo, h, q⟩ => by
  refine ⟨Z, Y, s, Xf, _, r, k, xo, h, fun v H1 Z1 r1 s1 hz rx h1 => ?_⟩
  obtain ⟨c, rfl, h2⟩ := isB_ok h1
  refine ⟨c, rx.vb, ?_⟩
  cases c with
  | true => exact ⟨Z1, Y, s1, Xf, _, rx.rel0, k, xo.z hz, h2, fun w H2 Z2 r2 s2 hz2 rx2 hq => q w H2 Z2 r2 s2 (hz.trans hz2) rx2 hq⟩
  | false => exact q _ H1 Z1 _ s1 hz (.d rx.rel0 (.bl false)) h2
theorem pf_or {rest : List Expr} (ha : PF X L a fa) (hb : PF X L (.BoolOp .Or (b :: rest) pos) fb) : PF X L (.BoolOp .Or (a :: b :: rest) pos) (fOrV fa fb) := PE_imp (pe_or ha hb) fun σ H Q ⟨Z, Y, s, Xf, Qf, r, k, xo, h, q⟩ => by
  refine ⟨Z, Y, s, Xf, _, r, k, xo, h, fun v H1 Z1 r1 s1 hz rx h1 => ?_⟩
  obtain ⟨c, rfl, h2⟩ := isB_ok h1
  refine ⟨c, rx.vb, ?_⟩
  cases c with
  | false => exact ⟨Z1, Y, s1, Xf, _, rx.rel0, k, xo.z hz, h2, fun w H2 Z2 r2 s2 hz2 rx2 hq => q w H2 Z2 r2 s2 (hz.trans hz2) rx2 hq⟩
  | true => exact q _ H1 Z1 _ s1 hz (.d rx.rel0 (.bl true)) h2
theorem pf_not (ha : PF X L a fa) : PF X L (.UnaryOp .Not a pos) (fNotV fa) := PE_imp (pe_not ha) fun σ H Q ⟨Z, Y, s, Xf, Qf, r, k, xo, h, q⟩ => by
  refine ⟨Z, Y, s, Xf, _, r, k, xo, h, fun v H1 Z1 r1 s1 hz rx h1 => ?_⟩
  obtain ⟨c, rfl, h2⟩ := isB_ok h1
  exact ⟨c, rx.vb, q _ H1 Z1 _ s1 hz (.d rx.rel0 (.bl _)) h2⟩
theorem pf_ifE (hc : PFT X L c ft) (ha : PF X L a fa) (hb : PF X L b fb) : PF X L (.IfExp c a b pos) (fIfE ft fa fb) := PE_imp (pe_ifExp hc ha hb) fun σ H Q ⟨Z, Y, s, Xf, Qf, r, k, xo, h, q⟩ => by
  refine ⟨Z, Y, s, Xf, _, r, k, xo, h, fun d H1 Z1 s1 hz rl h1 => ?_⟩
  cases d with
  | true => exact ⟨Z1, Y, s1, Xf, _, rl, k, xo.z hz, h1, fun w H2 Z2 r2 s2 hz2 rx2 hq => q w H2 Z2 r2 s2 (hz.trans hz2) rx2 hq⟩
  | false => exact ⟨Z1, Y, s1, Xf, _, rl, k, xo.z hz, h1, fun w H2 Z2 r2 s2 hz2 rx2 hq => q w H2 Z2 r2 s2 (hz.trans hz2) rx2 hq⟩
/-! ### tests -/
theorem pft_B (h : PF X L e fa) (he : ∀ whole, isTrue e X.env whole = (do let v ← whole; standAt e.pos; holding [v] (truthy v)) := by intro _; rfl) : PFT X L e (fB fa) := PT_imp (pt_val h he) fun σ H Q ⟨Z, Y, s, Xf, Qf, r, k, xo, h, q⟩ => by
  refine ⟨Z, Y, s, Xf, _, r, k, xo, h, fun v H1 Z1 r1 s1 hz rx h1 => ?_⟩
  obtain ⟨c, rfl, h2⟩ := isB_ok h1
  exact ⟨c, rx.vb, q _ H1 Z1 s1 hz rx.rel0 h2⟩
theorem pft_cmp {op : CmpOp} {g : V2} (ho : OpR X (compareOp op) (rF2 X.K g)) (ha : PF X L a fa) (hb : PF X L b fb) (hm : behindInMarks op b = false) : PFT X L (.Compare a [op] [b] pos) (fB (fOp g fa fb)) := PT_imp (pt_cmpR ho ha hb hm) fun σ H Q ⟨Z, Y, s, Xf, Qf, r, k, xo, h, q⟩ => by
  refine fOp_ok ⟨Z, Y, s, Xf, _, r, k, xo, h, fun v H1 Z1 r1 s1 hz rx h1 => ?_⟩
  obtain ⟨c, rfl, h2⟩ := isB_ok h1
  exact ⟨c, rx.vb, q _ H1 Z1 s1 hz rx.rel0 h2⟩
theorem pfw_and1 (ha : PFT X L a ft) : PFW X L (.BoolOp .And [a] pos) ft := pw_and1 ha
theorem pfw_or1 (ha : PFT X L a ft) : PFW X L (.BoolOp .Or [a] pos) ft := pw_or1 ha
theorem pfw_and {rest : List Expr} (ha : PFT X L a ft) (hb : PFW X L (.BoolOp .And (b :: rest) pos) fu) : PFW X L (.BoolOp .And (a :: b :: rest) pos) (fAnd ft fu) := PW_imp (pw_and ha hb) fun σ H Q ⟨Z, Y, s, Xf, Qf, r, k, xo, h, q⟩ => by
  refine ⟨Z, Y, s, Xf, _, r, k, xo, h, fun d H1 Z1 s1 hz rl h1 => ?_⟩
  cases d with
  | true => exact ⟨Z1, Y, s1, Xf, _, rl, k, xo.z hz, h1, fun w H2 Z2 s2 hz2 rx2 hq => q w H2 Z2 s2 (hz.trans hz2) rx2 hq⟩
  | false => exact q _ H1 Z1 s1 hz rl h1
theorem pfw_or {rest : List Expr} (ha : PFT X L a ft) (hb : PFW X L (.BoolOp .Or (b :: rest) pos) fu) : PFW X L (.BoolOp .Or (a :: b :: rest) pos) (fOr ft fu) := PW_imp (pw_or ha hb) fun σ H Q ⟨Z, Y, s, Xf, Qf, r, k, xo, h, q⟩ => by
  refine ⟨Z, Y, s, Xf, _, r, k, xo, h, fun d H1 Z1 s1 hz rl h1 => ?_⟩
  cases d with
  | false => exact ⟨Z1, Y, s1, Xf, _, rl, k, xo.z hz, h1, fun w H2 Z2 s2 hz2 rx2 hq => q w H2 Z2 s2 (hz.trans hz2) rx2 hq⟩
  | true => exact q _ H1 Z1 s1 hz rl h1
theorem pft_W (h : PFW X L e ft) : PFT X L e ft := PW.pt h
theorem pft_not (ha : PFT X L a ft) : PFT X L (.UnaryOp .Not a pos) (fNot ft) := PT_imp (pt_not ha) fun σ H Q ⟨Z, Y, s, Xf, Qf, r, k, xo, h, q⟩ =>
  ⟨Z, Y, s, Xf, _, r, k, xo, h, fun d H1 Z1 s1 hz rl h1 => q _ H1 Z1 s1 hz rl h1⟩

/-! ### chains -/
theorem RelX.app2 {K : PySem.W.Frag} {Z Y H : Hp} {σ : St} {s : S} {v w : V} {r q : R} (x : RelX K Z Y H σ s [v, w] [r, q]) : RelX K Z Y H σ s [w] [q] := by
  refine ⟨?_, x.l1, rfl, fun k i h => ?_⟩
  · refine x.rel.re (fun k => if k < σ.length then some k else if k = σ.length then some (k + 1) else none) (by have := x.l1; simp [this]) (fun k => ?_) (fun k k' j h h' => ?_)
    · have hl := x.l1
      by_cases h1 : k < σ.length
      · simp only [if_pos h1]
        exact ⟨by rw [getD_app_lt (by omega), getD_app_lt (by omega)], by rw [getD_app_lt h1, getD_app_lt h1]⟩
      · simp only [if_neg h1]
        by_cases h2 : k = σ.length
        · simp only [if_pos h2]
          subst h2
          refine ⟨?_, ?_⟩
          · rw [getD_app_ge (by omega), getD_app_ge (by omega)]
            have e1 : σ.length - s.length = 0 := by omega
            have e2 : σ.length + 1 - s.length = 1 := by omega
            rw [e1, e2]; rfl
          · rw [getD_app_ge (Nat.le_refl _), getD_app_ge (Nat.le_succ _)]
            have e1 : σ.length - σ.length = 0 := by omega
            have e2 : σ.length + 1 - σ.length = 1 := by omega
            rw [e1, e2]; rfl
        · simp only [if_neg h2]
          exact .inl (getD_out (by simp; omega))
    · by_cases a1 : k < σ.length
      · rw [if_pos a1] at h
        by_cases b1 : k' < σ.length
        · rw [if_pos b1] at h'; cases h; cases h'; rfl
        · rw [if_neg b1] at h'
          by_cases b2 : k' = σ.length
          · rw [if_pos b2] at h'; cases h; cases h'; omega
          · rw [if_neg b2] at h'; cases h'
      · rw [if_neg a1] at h
        by_cases a2 : k = σ.length
        · rw [if_pos a2] at h
          by_cases b1 : k' < σ.length
          · rw [if_pos b1] at h'; cases h; cases h'; omega
          · rw [if_neg b1] at h'
            by_cases b2 : k' = σ.length
            · omega
            · rw [if_neg b2] at h'; cases h'
        · rw [if_neg a2] at h; cases h
  · cases k with
    | zero => exact x.top 1 i h
    | succ k => simp at h
theorem fChain_ok {g g' : V2} {σ : St} {H : Hp} {Q : VK} (h : liftE X L (fChain g g' fa fb fc) σ H Q) : tChain (rF2 X.K g) (rF2 X.K g') (liftE X L fa) (liftE X L fb) (liftE X L fc) σ H Q := by
  obtain ⟨Z, Y, s, Xf, Qf, r, k, xo, h, q⟩ := h
  refine ⟨Z, Y, s, Xf, _, r, k, xo, h, fun v H1 Z1 r1 s1 hz rx h1 => ?_⟩
  obtain ⟨Y', hy, rl, bk, fw⟩ := rx.frame
  refine ⟨Z1, Y', s1, Xf, _, rl, k, (xo.z hz).mono (Same.refl _) bk, h1, fun w H2 Z2 r2 s2 hz2 rx2 h2 => ?_⟩
  have rx3 := fw Z2 H2 s2 [w] [r2] hz2 rx2
  obtain ⟨d, e1, h3⟩ := look_ok h2
  obtain ⟨e, e2, h4⟩ := look_ok h3
  obtain ⟨v', ev, rv⟩ := rx3.look (k := 0) rfl e1
  obtain ⟨w', ew, rw'⟩ := rx3.look (k := 1) rfl e2
  cases ev; cases ew
  refine ⟨Z2, d, e, _, rx3.rel0.zh, rv, rw', h4, fun u H3 Z3 r3 n hq => ?_⟩
  obtain ⟨c, rfl, h5⟩ := isB_ok hq
  have uv : u = .bl c := by have := n.val; cases this; rfl
  refine ⟨c, uv, ?_⟩
  have rx4 : RelX X.K Z3 Y H3 σ s2 [w] [r2] := by
    have y := rx3.app2
    exact ⟨y.rel.grow n.hh n.hz n.zh n.old, y.l1, y.l2, y.top⟩
  cases c with
  | false => exact q _ H3 Z3 _ s2 ((hz.trans hz2).trans n.hz) (.d rx4.rel0 (.bl false)) h5
  | true =>
    obtain ⟨Y2, hy2, rl2, bk2, fw2⟩ := rx4.frame
    refine ⟨Z3, Y2, s2, Xf, _, rl2, k, (xo.z ((hz.trans hz2).trans n.hz)).mono (Same.refl _) bk2, h5, fun x H4 Z4 r4 s4 hz4 rx5 h6 => ?_⟩
    have rx6 := fw2 Z4 H4 s4 [x] [r4] hz4 rx5
    obtain ⟨d', e3, h7⟩ := look_ok h6
    obtain ⟨e', e4, h8⟩ := look_ok h7
    obtain ⟨v3, ev3, rv3⟩ := rx6.look (k := 0) rfl e3
    obtain ⟨w3, ew3, rw3⟩ := rx6.look (k := 1) rfl e4
    cases ev3; cases ew3
    exact ⟨Z4, d', e', _, rx6.rel0.zh, rv3, rw3, h8, fun u5 H5 Z5 r5 n5 hq5 => q u5 H5 Z5 r5 s4 ((((hz.trans hz2).trans n.hz).trans hz4).trans n5.hz) (rx6.rel0.new n5) hq5⟩
theorem pf_chain {op op' : CmpOp} {g g' : V2} (ho : OpR X (compareOp op) (rF2 X.K g)) (ho' : OpR X (compareOp op') (rF2 X.K g')) (ha : PF X L a fa) (hb : PF X L b fb) (hc : PF X L c fc)
    (hm : lastMarks [op, op'] [b, c] = false := by with_unfolding_all rfl) : PF X L (.Compare a [op, op'] [b, c] pos) (fChain g g' fa fb fc) := PE_imp (pe_chain ho ho' ha hb hc hm) fun _ _ _ => fChain_ok
theorem pft_chain {op op' : CmpOp} {g g' : V2} (ho : OpR X (compareOp op) (rF2 X.K g)) (ho' : OpR X (compareOp op') (rF2 X.K g')) (ha : PF X L a fa) (hb : PF X L b fb) (hc : PF X L c fc)
    (hm : lastMarks [op, op'] [b, c] = false := by with_unfolding_all rfl) : PFT X L (.Compare a [op, op'] [b, c] pos) (fB (fChain g g' fa fb fc)) := PT_imp (pt_chain ho ho' ha hb hc hm) fun σ H Q ⟨Z, Y, s, Xf, Qf, r, k, xo, h, q⟩ => by
  refine fChain_ok ⟨Z, Y, s, Xf, _, r, k, xo, h, fun v H1 Z1 r1 s1 hz rx h1 => ?_⟩
  obtain ⟨c, rfl, h2⟩ := isB_ok h1
  exact ⟨c, rx.vb, q _ H1 Z1 s1 hz rx.rel0 h2⟩

/-! ### blocks -/
variable {st : Stmt} {rest : List Stmt} {f1 f2 : FS}
theorem pfs_nil : PFSs X L [] fNext := PSs_imp pss_nil fun D σ H ⟨Z, Y, s, Ef, r, k, h, eo⟩ => eo.nx σ H Z s (Same.refl _) k r h
theorem pfs_cons (h1 : PFS X L st f1) (h2 : PFSs X L rest f2) : PFSs X L (st :: rest) (fSeq f1 f2) := PSs_imp (pss_cons h1 h2) fun D σ H ⟨Z, Y, s, Ef, r, k, h, eo⟩ =>
  ⟨Z, Y, s, _, r, k, h, ⟨fun σ' H' Z' s' hz k' r' h' => ⟨Z', Y, s', Ef, r', k', h', eo.z hz⟩, eo.rt, eo.bk, eo.ct, eo.xx⟩⟩
theorem pfs_one (h1 : PFS X L st f1) : PFSs X L [st] f1 := pss_one h1
theorem pfs_break : PFS X L (.Break pos) fBreak := PS_imp ps_break fun D σ H ⟨Z, Y, s, Ef, r, k, h, eo⟩ => eo.bk σ H Z s (Same.refl _) k r h
theorem pfs_pass : PFS X L (.Pass pos) fNext := PS_imp ps_pass fun D σ H ⟨Z, Y, s, Ef, r, k, h, eo⟩ => eo.nx σ H Z s (Same.refl _) k r h
theorem pfs_doc {x j p' pos} : PFS X L (.Expr (.Constant (.str x) j pos) p') fNext := PS_imp ps_doc fun D σ H ⟨Z, Y, s, Ef, r, k, h, eo⟩ => eo.nx σ H Z s (Same.refl _) k r h
theorem pfs_expr (he : PF X L e fa) (hs : swapsWith e none pos.line X.env = pure false := by rfl) : PFS X L (.Expr e pos) (fDrop fa) := PS_imp (ps_expr he hs) fun D σ H ⟨Z, Y, s, Ef, r, k, h, eo⟩ =>
  ⟨Z, Y, s, Ef.xx, _, r, k, eo.xx, h, fun v H1 Z1 r1 s1 hz rx h1 => eo.nx σ H1 Z1 s1 hz k rx.rel0 h1⟩
theorem pfs_ret (he : PF X L e fa) : PFS X L (.Return (some e) pos) (fRet fa) := PS_imp (ps_ret he) fun D σ H ⟨Z, Y, s, Ef, r, k, h, eo⟩ =>
  ⟨Z, Y, s, Ef.xx, _, r, k, eo.xx, h, fun v H1 Z1 r1 s1 hz rx h1 => eo.rt v σ H1 Z1 r1 s1 hz k rx h1⟩
theorem pfs_retN : PFS X L (.Return none pos) fRetN := PS_imp ps_retN fun D σ H ⟨Z, Y, s, Ef, r, k, h, eo⟩ => eo.rt .non σ H Z _ s (Same.refl _) k (.d r .non) h
theorem pfs_if {sa sb : List Stmt} (hc : PFT X L c ft) (ha : PFSs X L sa f1) (hb : PFSs X L sb f2) : PFS X L (.If c sa sb pos) (fIfS ft f1 f2) := PS_imp (ps_if hc ha hb) fun D σ H ⟨Z, Y, s, Ef, r, k, h, eo⟩ => by
  refine ⟨Z, Y, s, Ef.xx, _, r, k, eo.xx, h, fun d H1 Z1 s1 hz rl h1 => ?_⟩
  cases d with
  | true => exact ⟨Z1, Y, s1, Ef, rl, k, h1, eo.z hz⟩
  | false => exact ⟨Z1, Y, s1, Ef, rl, k, h1, eo.z hz⟩

/-! ### stores -/
theorem Lv.keeps_set {σ : St} {i : Nat} {v : Option V} (k : L.keeps σ) (hi : i ∉ L.io) : L.keeps (σ.set i v) := ⟨by rw [List.length_set]; exact k.1, fun j hj => by
  rw [getD_set_ne (fun z : i = j => hi (by rw [z]; exact hj))]
  exact k.2 j hj⟩
/-- the last slot put into another one -/
theorem Rel.put {K : PySem.W.Frag} {Z Y H : Hp} {σ : St} {s : S} {v : V} {w : SV} (r : Rel K Z Y H (σ ++ [some v]) (s ++ [w])) (hl : σ.length = s.length) (i : Nat) : Rel K Z Y H (σ.set i (some v)) (s.set i w) := by
  by_cases hi : i < σ.length
  · refine r.re (fun k => if k < σ.length then (if k = i then some σ.length else some k) else none) (by simp [hl]) (fun k => ?_) (fun k k' j h h' => ?_)
    · by_cases h1 : k < σ.length
      · simp only [if_pos h1]
        by_cases h2 : k = i
        · subst h2
          simp only [if_pos rfl]
          refine ⟨?_, ?_⟩
          · rw [getD_set_self (by omega), getD_app_ge (by omega), hl, Nat.sub_self]; rfl
          · rw [getD_set_self hi, getD_app_ge (Nat.le_refl _), Nat.sub_self]; rfl
        · simp only [if_neg h2]
          exact ⟨by rw [getD_set_ne (Ne.symm h2), getD_app_lt (by omega)], by rw [getD_set_ne (Ne.symm h2), getD_app_lt h1]⟩
      · simp only [if_neg h1]
        exact .inl (getD_out (by simp; omega))
    · by_cases a1 : k < σ.length
      · rw [if_pos a1] at h
        by_cases b1 : k' < σ.length
        · rw [if_pos b1] at h'
          by_cases a2 : k = i
          · by_cases b2 : k' = i
            · omega
            · rw [if_pos a2] at h; rw [if_neg b2] at h'; cases h; cases h'; omega
          · rw [if_neg a2] at h
            by_cases b2 : k' = i
            · rw [if_pos b2] at h'; cases h; cases h'; omega
            · rw [if_neg b2] at h'; cases h; cases h'; rfl
        · rw [if_neg b1] at h'; cases h'
      · rw [if_neg a1] at h; cases h
  · rw [List.set_eq_of_length_le (by omega), List.set_eq_of_length_le (by omega)]
    exact r.take hl
/-- what has come, stored -/
theorem putR_ok {K : PySem.W.Frag} {Z Y H : Hp} {σ : St} {s : S} {v : V} {r : R} {i : Nat} {k : S → Prop} (rx : RelX K Z Y H σ s [v] [r]) (h : putR i r s k) : ∃ Z' s', Same Z Z' ∧ Rel K Z' Y H (σ.set i (some v)) s' ∧ k s' := by
  cases r with
  | d x => exact ⟨Z, _, Same.refl _, Rel.put rx.rel rx.l1 i, h⟩
  | own w => exact ⟨Z, _, Same.refl _, Rel.put rx.rel rx.l1 i, h⟩
  | top j =>
    unfold putR at h
    dsimp only at h
    cases e : asD (s.getD j .no) with
    | none => rw [e] at h; exact h.elim
    | some x =>
      rw [e] at h
      have h' : frz (.top j) s fun d s' => k (s'.set i (.d d)) := by
        unfold frz; dsimp only; rw [e]; exact h
      obtain ⟨Z', d, s', hz, rx', h2⟩ := frz_ok (us := []) (ds := []) (vs := []) (rs := []) rx rfl h'
      exact ⟨Z', _, hz, Rel.put rx'.rel rx'.l1 i, h2⟩
theorem pfs_set {i : Nat} {x : Str} {pos' : Pos} (hN : X.N.Nodup) (he : PF X L e fa) (hi : X.N[i]? = some x := by rfl) (hx : Loc X.env.scope x := by first | exact Or.inl rfl | exact Or.inr rfl) (hio : i ∉ L.io := by exact of_decide_eq_true rfl) (hs : swapsWith e (some (.Name x pos')) pos.line X.env = pure false := by rfl) (hf : X.fn x = true ∨ X.env.scope.names.lookup x = some .local := by first | exact .inl rfl | exact .inr rfl) :
    PFS X L (.Assign [.Name x pos'] e pos) (fAsg i fa) := PS_imp (ps_set hN hi hx he hs hf) fun D σ H ⟨Z, Y, s, Ef, r, k, h, eo⟩ => by
  refine ⟨Z, Y, s, Ef.xx, _, r, k, eo.xx, h, fun v H1 Z1 r1 s1 hz rx h1 => ?_⟩
  obtain ⟨Z2, s2, hz2, rl2, h2⟩ := putR_ok rx h1
  exact eo.nx _ H1 Z2 s2 (hz.trans hz2) (L.keeps_set k hio) rl2 h2

/-! ### targets -/
/-- only the slots ws differ -/
def Only (ws : List Nat) (σ σ' : St) : Prop := σ'.length = σ.length ∧ ∀ j : Nat, j ∉ ws → σ'[j]? = σ[j]?
theorem Only.refl {ws : List Nat} {σ : St} : Only ws σ σ := ⟨rfl, fun _ _ => rfl⟩
theorem Only.trans {ws : List Nat} {σ σ1 σ2 : St} (a : Only ws σ σ1) (b : Only ws σ1 σ2) : Only ws σ σ2 := ⟨b.1.trans a.1, fun j h => (b.2 j h).trans (a.2 j h)⟩
theorem Only.set {ws : List Nat} {σ : St} {i : Nat} {v : Option V} (h : i ∈ ws) : Only ws σ (σ.set i v) := ⟨by simp, fun j hj => List.getElem?_set_ne (fun z : i = j => hj (z ▸ h))⟩
def liftG (X : Cx) (L : Lv) (ws : List Nat) (fg : FG) : TG := fun v σ H Q => ∃ Z Y s d Qf, Rel X.K Z Y H σ s ∧ L.keeps σ ∧ Rp X.K Z v d ∧ fg d s Qf ∧ ∀ σ' s', L.keeps σ' → Only ws σ σ' → Rel X.K Z Y H σ' s' → Qf s' → Q σ' H
def liftGs (X : Cx) (L : Lv) (ws : List Nat) (fg : List D → S → (S → Prop) → Prop) : TGs := fun vs σ H Q => ∃ Z Y s ds Qf, Rel X.K Z Y H σ s ∧ L.keeps σ ∧ RpAll X.K Z vs ds ∧ fg ds s Qf ∧ ∀ σ' s', L.keeps σ' → Only ws σ σ' → Rel X.K Z Y H σ' s' → Qf s' → Q σ' H
def PFG (X : Cx) (L : Lv) (ws : List Nat) (e : Expr) (fg : FG) : Prop := PG X e (liftG X L ws fg)
def PFGs (X : Cx) (L : Lv) (ws : List Nat) (es : List Expr) (fgs : List FG) : Prop := PGs X es (liftGs X L ws (gTp.gTps fgs))
variable {ws : List Nat}
theorem PG_imp {t t' : TG} (h : PG X e t) (hi : ∀ v σ H Q, t' v σ H Q → t v σ H Q) : PG X e t' := ⟨fun pins s σ H v u Q I r q => h.run pins s σ H v u Q I r (hi v σ H Q q)⟩
theorem PGs_imp {t t' : TGs} (h : PGs X es t) (hi : ∀ v σ H Q, t' v σ H Q → t v σ H Q) : PGs X es t' := ⟨fun pins s σ H v u Q I r q => h.run pins s σ H v u Q I r (hi v σ H Q q)⟩
theorem pfg_nm {i : Nat} {x : Str} (hN : X.N.Nodup) (hi : X.N[i]? = some x := by rfl) (hx : Loc X.env.scope x := by first | exact Or.inl rfl | exact Or.inr rfl) (hio : i ∉ L.io := by exact of_decide_eq_true rfl) (hws : i ∈ ws := by decide) (hf : X.fn x = true ∨ X.env.scope.names.lookup x = some .local := by first | exact .inl rfl | exact .inr rfl) : PFG X L ws (.Name x pos) (gNm i) :=
  PG_imp (pg_name hN hi hx hf) fun v σ H Q ⟨Z, Y, s, d, Qf, r, k, rp, h, q⟩ => q _ _ (L.keeps_set k hio) (.set hws) (Rel.put (r.pushD rp) r.len i) h
theorem pfgs_nil : PFGs X L ws [] [] := PGs_imp pgs_nil fun vs σ H Q ⟨Z, Y, s, ds, Qf, r, k, rp, h, q⟩ => by
  cases rp with
  | nil => exact ⟨rfl, q σ s k .refl r h⟩
  | cons _ _ => exact h.elim
theorem pfgs_cons {fg : FG} {fgs : List FG} (h1 : PFG X L ws e fg) (h2 : PFGs X L ws es fgs) (hs : (assignEach (e :: es) X.env).map (·.2) = assign e X.env :: (assignEach es X.env).map (·.2) := by rfl) : PFGs X L ws (e :: es) (fg :: fgs) :=
  PGs_imp (pgs_cons h1 h2 hs) fun vs σ H Q ⟨Z, Y, s, ds, Qf, r, k, rp, h, q⟩ => by
  cases rp with
  | nil => exact h.elim
  | cons rd ra =>
    refine ⟨_, _, rfl, Z, Y, s, _, _, r, k, rd, h, fun σ1 s1 k1 o1 r1 h1 => ?_⟩
    exact ⟨Z, Y, s1, _, Qf, r1, k1, ra, h1, fun σ2 s2 k2 o2 => q σ2 s2 k2 (o1.trans o2)⟩
/-- a tuple's target takes as many things as it has names -/
def TpLen (fgs : List FG) : Prop := ∀ ds s k, gTp.gTps fgs ds s k → ds.length = fgs.length
theorem tp2 {i j : Nat} : TpLen [gNm i, gNm j] := fun ds s k h => by
  match ds, h with
  | [_, _], _ => rfl
  | [], h => exact h.elim
  | [_], h => exact h.elim
  | _ :: _ :: _ :: _, h => exact h.elim
theorem tp3 {i j l : Nat} : TpLen [gNm i, gNm j, gNm l] := fun ds s k h => by
  match ds, h with
  | [_, _, _], _ => rfl
  | [], h => exact h.elim
  | [_], h => exact h.elim
  | [_, _], h => exact h.elim
  | _ :: _ :: _ :: _ :: _, h => exact h.elim
theorem tp1p {i j l : Nat} : TpLen [gNm i, gTp [gNm j, gNm l]] := fun ds s k h => by
  match ds, h with
  | [_, _], _ => rfl
  | [], h => exact h.elim
  | [_], h => exact h.elim
  | _ :: x :: _ :: _, h =>
    exfalso
    simp only [gTp.gTps, gNm] at h
    cases x with
    | tuple xs =>
      simp only [gTp] at h
      match xs, h with
      | [_, _], h => exact h.elim
      | [], h => exact h.elim
      | [_], h => exact h.elim
      | _ :: _ :: _ :: _, h => exact h.elim
    | _ => exact h.elim
theorem pfg_tup {x1 : Nat} {fgs : List FG} (hc : X.calm = true) (h : PFGs X L ws es fgs) (hn : (assignEach es X.env).length = fgs.length := by rfl) (hst : (assignEach es X.env).findIdx? (·.1) = none := by rfl)
    (hlen : TpLen fgs) : PFG X L ws (.Tuple es x1 pos) (gTp fgs) :=
  PG_imp (pg_tup hc h hn hst) fun v σ H Q ⟨Z, Y, s, d, Qf, r, k, rp, h, q⟩ => by
  cases rp with
  | tup hs hz ra => exact ⟨_, _, rfl, tupSq (r.zh _ _ hs), (by rw [ra.length]; exact hlen _ _ _ h), Z, Y, s, _, Qf, r, k, ra, h, q⟩
  | _ => exact h.elim
/-- a, b = e -/
theorem pfs_unp {tg : Expr} {fg : FG} (he : PF X L e fa) (hg : PFG X L ws tg fg) (hs : swapsWithSole [tg] e pos.line X.env = pure false := by rfl) (hw : swappedStores [tg] e X.env = pure none := by rfl)
    (h1 : (assignEach [tg] X.env).map (·.2) = [assign tg X.env] := by rfl) : PFS X L (.Assign [tg] e pos) (fUnp fg fa) := PS_imp (ps_asg he hg hs hw h1) fun D σ H ⟨Z, Y, s, Ef, r, k, h, eo⟩ => by
  refine ⟨Z, Y, s, Ef.xx, _, r, k, eo.xx, h, fun v H1 Z1 r1 s1 hz rx h1 => ?_⟩
  obtain ⟨Z2, d, s2, hz2, rx2, h2⟩ := frz_ok (us := []) (ds := []) (vs := []) (rs := []) rx rfl h1
  exact ⟨Z2, Y, s2, d, _, rx2.rel0, k, rx2.vd, h2, fun σ' s' k' _ r' h' => eo.nx σ' H1 Z2 s' (hz.trans hz2) k' r' h'⟩
/-- a, b = e1, e2 -/
theorem pfs_par {i j : Nat} {x y : Str} {px py pt : Pos} {kt k2 : Nat} {pt2 : Pos} (hc : X.calm = true) (hN : X.N.Nodup) (ha : PFA X L [a, b] fr) (hi : X.N[i]? = some x := by rfl) (hj : X.N[j]? = some y := by rfl) (hij : i ≠ j := by decide)
    (hx : X.env.scope.names.lookup x = some .local := by rfl) (hy : X.env.scope.names.lookup y = some .local := by rfl) (hio : i ∉ L.io := by exact of_decide_eq_true rfl) (hjo : j ∉ L.io := by exact of_decide_eq_true rfl)
    (hw : swappedStores [.Tuple [.Name x px, .Name y py] kt pt] (.Tuple [a, b] k2 pt2) X.env = pure (some [x, y]) := by rfl)
    (hs : swapsWithSole [.Tuple [.Name x px, .Name y py] kt pt] (.Tuple [a, b] k2 pt2) pos.line X.env = pure false := by rfl) : PFS X L (.Assign [.Tuple [.Name x px, .Name y py] kt pt] (.Tuple [a, b] k2 pt2) pos) (fPar i j fr) := PS_imp (ps_par hc hN hi hj hij hx hy ha hw hs) fun D σ H ⟨Z, Y, s, Ef, r, k, h, eo⟩ => by
  refine ⟨Z, Y, s, Ef.xx, _, r, k, eo.xx, h, fun vs H1 Z1 rs s1 hz rx hn h1 => ?_⟩
  have hl := rx.l2
  match rs, hn with
  | [r1, r2], _ =>
    match vs, hl with
    | [v, w], _ =>
      obtain ⟨Z2, d1, s2, hz2, rx2, h3⟩ := frz_ok (us := []) (ds := []) (vs := [w]) (rs := [r2]) rx rfl h1
      obtain ⟨Z3, d2, s3, hz3, rx3, h4⟩ := frz_ok (us := [v]) (ds := [d1]) (vs := []) (rs := []) rx2 rfl h3
      refine ⟨v, w, rfl, eo.nx _ H1 Z3 _ ((hz.trans hz2).trans hz3) (L.keeps_set (L.keeps_set k hio) hjo) ?_ h4⟩
      have q := RelX.rps (ds := [d1, d2]) rx3
      cases q with
      | cons q1 q2 =>
        cases q2 with
        | cons q2 _ =>
          have s1' := Rel.put (rx3.rel0.pushD q1) rx3.l1 i
          exact Rel.put (s1'.pushD q2) s1'.len j
end
end Hs
/-! HsD: loops, comprehensions, calls, defs. -/
namespace Hs
open PySem PySem.Spec PyProof.Rows L2
section
variable {X : Cx} {L : Lv} {e a b c : Expr} {es : List Expr} {fa fb fc : FE} {ft fu : FT} {fr : FA} {pos p : Pos} {ws : List Nat}

/-! ### what is walked -/
structure Walks (K : PySem.W.Frag) (Z : Hp) (J : It) (xs : List D) : Prop where
  stop : ∀ i H, Same Z H → xs.length ≤ i → J.stop i H
  go : ∀ i H, Same Z H → i < xs.length → J.go i H
  yld : ∀ (i : Nat) H v H' Zc, Same Z Zc → Same Zc H → i < xs.length → J.yld i H v H' → ∃ d Z', xs[i]? = some d ∧ NewR K Zc H Z' H' v (.d d)
def liftI (X : Cx) (L : Lv) (fi : FI) : TI := fun σ H R => ∃ Z Y s Xf Qf, Rel X.K Z Y H σ s ∧ L.keeps σ ∧ XOk X L Z Y Xf ∧ fi Xf s Qf ∧ ∀ J H' Z' s' xs, Same Z Z' → Rel X.K Z' Y H' σ s' → Walks X.K Z' J xs → Qf xs s' → R J H'
def PFI (X : Cx) (L : Lv) (tg e : Expr) (fi : FI) : Prop := PI X tg e (liftI X L fi)
theorem PI_imp {tg : Expr} {t t' : TI} (h : PI X tg e t) (hi : ∀ σ H R, t' σ H R → t σ H R) : PI X tg e t' := ⟨fun pins s σ H R I q => h.run pins s σ H R I (hi σ H R q)⟩
def iSq (K : PySem.W.Frag) (tl : TE) : TI := fun σ H R => tl σ H fun x H1 => ∃ a, x = .ref a ∧ (((∃ xs, SqL K H1 a xs) ∧ R (Itl K a) H1) ∨ ((∃ xs, SqT K H1 a xs) ∧ R (Itt K a) H1))
theorem pi_sq {tg l : Expr} {tl : TE} (hl : PE X l tl) : PI X tg l (iSq X.K tl) := by
  refine ⟨fun pins s σ H R I h => ?_⟩
  refine thn (hl.run pins s σ H _ I h) fun v s1 ⟨x, H1, I1, r1, q1⟩ => ?_
  obtain ⟨a, e, q⟩ := q1
  subst e
  cases r1
  have one : ∀ {b : Addr}, b ∈ [s1.heap.objs.size] → b = s1.heap.objs.size := fun hb => by simpa using hb
  rcases q with ⟨⟨xs, hq⟩, q⟩ | ⟨⟨xs, hq⟩, q⟩
  · obtain ⟨its, rv, p, hz⟩ := I1.list hq
    refine wpAny_pyIter_list p.isList ?_
    refine ⟨s1.heap.objs.size, [s1.heap.objs.size], _, _, H1, rfl, I1.kept (t' := s1.toks) fun b o e => Heap.get?_push_of_some _ e, turn_list a _, ⟨_, Heap.get?_push_size _ rfl, rfl, rfl⟩, fun b hb => ?_, q⟩
    rw [one hb]
    exact I1.fpOk (Nat.le_refl _) (I1.hok.fresh (Nat.le_refl _))
  · obtain ⟨its, rv, p, hz⟩ := I1.tuple hq
    refine wpAny_pyIter_tuple (show s1.heap.IsTuple a its.toArray from p) ?_
    refine ⟨s1.heap.objs.size, [s1.heap.objs.size], _, _, H1, rfl, I1.kept (t' := s1.toks) fun b o e => Heap.get?_push_of_some _ e, turn_tuple a _, ⟨_, Heap.get?_push_size _ rfl, rfl, rfl⟩, fun b hb => ?_, q⟩
    rw [one hb]
    exact I1.fpOk (Nat.le_refl _) (I1.hok.fresh (Nat.le_refl _))
theorem walks_list {K : PySem.W.Frag} {Z : Hp} {a : Addr} {vs : List V} {xs : List D} (h : SqL K Z a vs) (r : RpAll K Z vs xs) : Walks K Z (Itl K a) xs where
  stop := fun i H e hi => ⟨vs, e.seq h, by rw [r.length]; exact hi⟩
  go := fun i H e hi => ⟨vs, vs[i]'(by rw [r.length]; exact hi), e.seq h, by simp⟩
  yld := fun i H v H' Zc e1 e2 hi ⟨eh, hv⟩ => by
    subst eh
    obtain ⟨d, hd, rd⟩ := r.getV (hv vs ((e1.trans e2).seq h))
    exact ⟨d, Zc, hd, .d e2 (rd.same e1)⟩
theorem walks_tup {K : PySem.W.Frag} {Z : Hp} {a : Addr} {vs : List V} {xs : List D} (h : SqT K Z a vs) (r : RpAll K Z vs xs) : Walks K Z (Itt K a) xs where
  stop := fun i H e hi => ⟨vs, same_sqT e h, by rw [r.length]; exact hi⟩
  go := fun i H e hi => ⟨vs, vs[i]'(by rw [r.length]; exact hi), same_sqT e h, by simp⟩
  yld := fun i H v H' Zc e1 e2 hi ⟨eh, hv⟩ => by
    subst eh
    obtain ⟨d, hd, rd⟩ := r.getV (hv vs (same_sqT (e1.trans e2) h))
    exact ⟨d, Zc, hd, .d e2 (rd.same e1)⟩
theorem rangeD_get {lo : Int} {n i : Nat} (h : i < n) : (rangeD lo n)[i]? = some (.int (lo + (i : Int))) := by
  unfold rangeD
  rw [List.getElem?_map, List.getElem?_range h]; rfl
theorem rangeD_len {lo : Int} {n : Nat} : (rangeD lo n).length = n := by unfold rangeD; rw [List.length_map, List.length_range]
theorem walks_range {K : PySem.W.Frag} {Z : Hp} {lo : Int} {n : Nat} : Walks K Z (Itr lo n) (rangeD lo n) where
  stop := fun i H e hi => by rw [rangeD_len] at hi; exact hi
  go := fun i H e hi => by rw [rangeD_len] at hi; exact hi
  yld := fun i H v H' Zc e1 e2 hi ⟨eh, hv⟩ => by
    subst eh hv
    rw [rangeD_len] at hi
    exact ⟨_, Zc, rangeD_get hi, .d e2 (.int _)⟩
theorem pfi_seq {tg : Expr} (he : PF X L e fa) : PFI X L tg e (iSeq fa) := PI_imp (pi_sq he) fun σ H R ⟨Z, Y, s, Xf, Qf, r, k, xo, h, q⟩ => by
  refine ⟨Z, Y, s, Xf, _, r, k, xo, h, fun v H1 Z1 r1 s1 hz rx h1 => ?_⟩
  obtain ⟨Z2, d, s2, hz2, rx2, h2⟩ := frz_ok (us := []) (ds := []) (vs := []) (rs := []) rx rfl h1
  have rv := rx2.vd
  cases rv with
  | lst hs hl ra => exact ⟨_, rfl, .inl ⟨⟨_, .inl (same_rd rx2.rel0.zh hs)⟩, q _ H1 Z2 s2 _ (hz.trans hz2) rx2.rel0 (walks_list (.inl hs) ra) h2⟩⟩
  | tup hs hl ra => exact ⟨_, rfl, .inr ⟨⟨_, tupSq (rx2.rel0.zh _ _ hs)⟩, q _ H1 Z2 s2 _ (hz.trans hz2) rx2.rel0 (walks_tup (tupSq hs) ra) h2⟩⟩
  | _ => exact h2.elim
theorem pfi_range1 {tg : Expr} (hg : Gl X "range") (hm : X.mg "range" = none) (ha : PFA X L [a] fr) (hs : starEach [a] X.env = [(false, eval a X.env)] := by rfl) : PFI X L tg (.Call (.Name "range" p) [a] [] pos) (iRange1 fr) :=
  PI_imp (pi_range1 hg hm ha hs) fun σ H R ⟨Z, Y, s, Xf, Qf, r, k, xo, h, q⟩ => by
  refine ⟨Z, Y, s, Xf, _, r, k, xo, h, fun vs H1 Z1 rs s1 hz rx hn h1 => ?_⟩
  split at h1
  · rename_i j
    obtain ⟨hj, h2⟩ := h1
    have rv := RelX.rps (ds := [.int j]) rx
    cases rv with
    | cons r1 r2 =>
      cases r1; cases r2
      exact ⟨j, rfl, hj.1, hj.2, q _ H1 Z1 s1 _ hz rx.rel0 walks_range h2⟩
  · exact h1.elim
theorem pfi_range2 {tg : Expr} (hg : Gl X "range") (hm : X.mg "range" = none) (ha : PFA X L [a, b] fr) (hs : starEach [a, b] X.env = [(false, eval a X.env), (false, eval b X.env)] := by rfl) (hs2 : starEach [b] X.env = [(false, eval b X.env)] := by rfl) : PFI X L tg (.Call (.Name "range" p) [a, b] [] pos) (iRange2 fr) :=
  PI_imp (pi_range2 hg hm ha hs hs2) fun σ H R ⟨Z, Y, s, Xf, Qf, r, k, xo, h, q⟩ => by
  refine ⟨Z, Y, s, Xf, _, r, k, xo, h, fun vs H1 Z1 rs s1 hz rx hn h1 => ?_⟩
  split at h1
  · rename_i i j
    obtain ⟨hi, hj, h2⟩ := h1
    have rv := RelX.rps (ds := [.int i, .int j]) rx
    cases rv with
    | cons r1 r2 =>
      cases r2 with
      | cons r2 r3 =>
        cases r1; cases r2; cases r3
        exact ⟨i, j, rfl, ⟨hi.1, hi.2, hj.1, hj.2⟩, q _ H1 Z1 s1 _ hz rx.rel0 walks_range h2⟩
  · exact h1.elim

/-! ### loops -/
theorem wipe_get (σ : St) : ∀ (vs : List Nat) (j : Nat), (wipe σ vs).getD j none = if j ∈ vs then none else σ.getD j none
  | [], j => by simp [wipe]
  | v :: vs, j => by
    unfold wipe
    by_cases h : v = j
    · subst h
      simp only [List.mem_cons, true_or, if_true]
      by_cases hv : v < (wipe σ vs).length
      · exact getD_set_self hv
      · exact getD_out (by simpa using hv)
    · rw [getD_set_ne h, wipe_get σ vs j]
      have : (j ∈ v :: vs) ↔ j ∈ vs := by simp [Ne.symm h]
      simp only [this]
theorem wipeS_len : ∀ (vs : List Nat) (s : S), (wipeS s vs).length = s.length
  | [], s => rfl
  | v :: vs, s => by unfold wipeS; rw [wipeS_len vs, List.length_set]
theorem wipeS_get : ∀ (vs : List Nat) (s : S) (j : Nat), (wipeS s vs).getD j .no = if j ∈ vs then .no else s.getD j .no
  | [], s, j => by simp [wipeS]
  | v :: vs, s, j => by
    unfold wipeS
    rw [wipeS_get vs]
    by_cases hj : j ∈ vs
    · rw [if_pos hj, if_pos (List.mem_cons_of_mem _ hj)]
    · rw [if_neg hj]
      by_cases h : v = j
      · subst h
        rw [if_pos List.mem_cons_self]
        by_cases hv : v < s.length
        · exact getD_set_self hv
        · exact getD_out (by simpa using hv)
      · rw [getD_set_ne h, if_neg (by simp [hj, Ne.symm h])]
theorem Rel.wipeS {K : PySem.W.Frag} {Z Y H : Hp} {σ : St} {s : S} (r : Rel K Z Y H σ s) (vs : List Nat) : Rel K Z Y H σ (wipeS s vs) :=
  r.re (fun k => if k ∈ vs then none else some k) (by rw [wipeS_len]; exact r.len) (fun k => by
    by_cases h : k ∈ vs
    · simp only [if_pos h]
      exact .inl (by rw [wipeS_get, if_pos h])
    · simp only [if_neg h]
      exact ⟨by rw [wipeS_get, if_neg h], trivial⟩) (fun k k' j h h' => by
    by_cases a : k ∈ vs
    · rw [if_pos a] at h; cases h
    · by_cases b : k' ∈ vs
      · rw [if_pos b] at h'; cases h'
      · rw [if_neg a] at h; rw [if_neg b] at h'; cases h; cases h'; rfl)
variable {f1 f2 : FS} {wp : List Nat}
theorem pfs_for {tg iter : Expr} {body : List Stmt} {fi : FI} {fg : FG} (hp : PassesOwn (model X.prog X.w) X.A X.env X.xe) (hc : X.calm = true) (hi : PFI X L tg iter fi) (hg : PFG X L ws tg fg) (hb : PFSs X L body f1)
    (hs : ∀ x, foldedSetIterable iter X.env x = pure x := by intro _; rfl) : PFS X L (.For tg iter body [] pos) (fFor fi fg wp f1) := PS_imp (ps_for hp hc hi hg hb hs) fun D σ H ⟨Z, Y, s, Ef, r, k, h, eo⟩ => by
  refine ⟨Z, Y, s, Ef.xx, _, r, k, eo.xx, h, fun J H1 Z1 s1 xs hz rl wk hloop => ?_⟩
  refine ⟨fun i m σ' H' => ∃ Z' s', Same Z1 Z' ∧ Rel X.K Z' Y H' σ' s' ∧ L.keeps σ' ∧ m = xs.length - i ∧ i ≤ xs.length ∧ fLoop fg wp f1 Ef (xs.drop i) s', ⟨xs.length, Z1, _, Same.refl _, rl.wipeS wp, k, rfl, Nat.zero_le _, hloop⟩, ?_⟩
  rintro i m σ' H' ⟨Z', s', hz', r', k', rfl, hle, hl⟩
  by_cases hlt : i < xs.length
  · refine .inr ⟨wk.go i H' (hz'.trans r'.zh) hlt, fun σ2 H2 => ∃ Z2 s2, Same Z' Z2 ∧ Rel X.K Z2 Y H2 σ2 s2 ∧ L.keeps σ2 ∧ fLoop fg wp f1 Ef (xs.drop (i + 1)) (wipeS s2 wp), fun σ2 H2 ⟨Z2, s2, hz2, r2, k2, h2⟩ => ⟨xs.length - (i + 1), by omega, Z2, _, hz'.trans hz2, r2.wipeS wp, k2, rfl, hlt, h2⟩, fun x H2 hy => ?_⟩
    obtain ⟨d, Z2, hd, n⟩ := wk.yld i H' x H2 Z' hz' r'.zh hlt hy
    have ed : xs.drop i = d :: xs.drop (i + 1) := by
      obtain ⟨h1, h2⟩ := List.getElem?_eq_some_iff.mp hd
      rw [List.drop_eq_getElem_cons hlt, h2]
    rw [ed] at hl
    have r2 : Rel X.K Z2 Y H2 σ' s' := r'.grow n.hh n.hz n.zh n.old
    refine ⟨Z2, Y, s', d, _, r2, k', n.val, hl, fun σ3 s3 k3 _ r3 h3 => ?_⟩
    refine ⟨Z2, Y, s3, _, r3, k3, h3, ⟨fun σ4 H4 Z4 s4 hz4 k4 r4 h4 => ⟨Z4, s4, n.hz.trans hz4, r4, k4, h4⟩, fun v σ4 H4 Z4 r0 s4 hz4 k4 rx4 h4 => eo.rt v σ4 H4 Z4 r0 s4 (((hz.trans hz').trans n.hz).trans hz4) k4 rx4 h4,
      fun σ4 H4 Z4 s4 hz4 k4 r4 h4 => eo.nx σ4 H4 Z4 _ (((hz.trans hz').trans n.hz).trans hz4) k4 (r4.wipeS wp) h4, fun σ4 H4 Z4 s4 hz4 k4 r4 h4 => ⟨Z4, s4, n.hz.trans hz4, r4, k4, h4⟩, eo.xx.z ((hz.trans hz').trans n.hz)⟩⟩
  · have ei : i = xs.length := by omega
    subst ei
    rw [List.drop_length] at hl
    exact .inl ⟨wk.stop _ H' (hz'.trans r'.zh) (Nat.le_refl _), eo.nx σ' H' Z' s' (hz.trans hz') k' r' hl⟩
theorem pfs_while {body : List Stmt} (hp : PassesOwn (model X.prog X.w) X.A X.env X.xe) (hc : PFT X L c ft) (hb : PFSs X L body f1) : PFS X L (.While c body [] pos) (fWhile wp ft f1) := PS_imp (ps_while hp hc hb) fun D σ H ⟨Z, Y, s, Ef, r, k, ⟨n, h⟩, eo⟩ => by
  refine ⟨fun m σ' H' => ∃ Z' s', Same Z Z' ∧ Rel X.K Z' Y H' σ' s' ∧ L.keeps σ' ∧ fWhileN wp ft f1 Ef m s', ⟨n, Z, _, Same.refl _, r.wipeS wp, k, h⟩, ?_⟩
  rintro m σ' H' ⟨Z', s', hz', r', k', hl⟩
  cases m with
  | zero => exact hl.elim
  | succ m =>
    refine ⟨Z', Y, s', Ef.xx, _, r', k', eo.xx.z hz', hl, fun d H1 Z1 s1 hz1 r1 h1 => ?_⟩
    cases d with
    | false => exact eo.nx σ' H1 Z1 s1 (hz'.trans hz1) k' r1 h1
    | true =>
      simp only [if_true] at h1 ⊢
      refine ⟨fun σ2 H2 => ∃ Z2 s2, Same Z1 Z2 ∧ Rel X.K Z2 Y H2 σ2 s2 ∧ L.keeps σ2 ∧ fWhileN wp ft f1 Ef m (wipeS s2 wp), fun σ2 H2 ⟨Z2, s2, hz2, r2, k2, h2⟩ => ⟨m, Nat.lt_succ_self m, Z2, _, (hz'.trans hz1).trans hz2, r2.wipeS wp, k2, h2⟩, ?_⟩
      exact ⟨Z1, Y, s1, _, r1, k', h1, ⟨fun σ4 H4 Z4 s4 hz4 k4 r4 h4 => ⟨Z4, s4, hz4, r4, k4, h4⟩, fun v σ4 H4 Z4 r0 s4 hz4 k4 rx4 h4 => eo.rt v σ4 H4 Z4 r0 s4 ((hz'.trans hz1).trans hz4) k4 rx4 h4,
        fun σ4 H4 Z4 s4 hz4 k4 r4 h4 => eo.nx σ4 H4 Z4 _ ((hz'.trans hz1).trans hz4) k4 (r4.wipeS wp) h4, fun σ4 H4 Z4 s4 hz4 k4 r4 h4 => ⟨Z4, s4, hz4, r4, k4, h4⟩, eo.xx.z (hz'.trans hz1)⟩⟩

/-! ### comprehensions -/
theorem wipe_only {σ σ' : St} {vs : List Nat} (o : Only vs σ σ') : wipe σ' vs = wipe σ vs := by
  refine List.ext_getElem? fun j => ?_
  have g : ∀ τ : St, (wipe τ vs)[j]? = if j < τ.length then some (if j ∈ vs then none else τ.getD j none) else none := fun τ => by
    by_cases h : j < τ.length
    · rw [if_pos h]
      have q := wipe_get τ vs j
      rw [List.getD_eq_getElem?_getD, List.getElem?_eq_getElem (by rw [wipe_length]; exact h)] at q
      rw [List.getElem?_eq_getElem (by rw [wipe_length]; exact h)]
      exact congrArg some q
    · rw [if_neg h, List.getElem?_eq_none (by rw [wipe_length]; omega)]
  rw [g, g, o.1]
  by_cases h : j ∈ vs
  · simp [h]
  · simp only [h, if_false]
    rw [List.getD_eq_getElem?_getD, List.getD_eq_getElem?_getD, o.2 j h]
theorem wipe_wipe {σ : St} {vs : List Nat} : Only vs σ (wipe σ vs) := ⟨wipe_length σ vs, fun j h => by
  have q := wipe_get σ vs j
  rw [if_neg h, List.getD_eq_getElem?_getD, List.getD_eq_getElem?_getD] at q
  by_cases hj : j < σ.length
  · rw [List.getElem?_eq_getElem (by rw [wipe_length]; exact hj), List.getElem?_eq_getElem hj] at q ⊢
    exact congrArg some q
  · rw [List.getElem?_eq_none (by rw [wipe_length]; omega), List.getElem?_eq_none (by omega)]⟩
/-- the wiped slots hold nothing: whatever stands there -/
theorem Rel.unwipe {K : PySem.W.Frag} {Z Y H : Hp} {σ σ' ts : St} {s us : S} {vs : List Nat} (r : Rel K Z Y H (σ ++ ts) (s ++ us)) (o : Only vs σ σ') (hl : σ.length = s.length) (hn : ∀ j ∈ vs, s.getD j .no = .no) : Rel K Z Y H (σ' ++ ts) (s ++ us) := by
  refine r.re (fun k => if k < σ.length ∧ k ∈ vs then none else some k) (by have := r.len; simp only [List.length_append] at this ⊢; rw [o.1]; exact this) (fun k => ?_) (fun k k' j h h' => ?_)
  · by_cases h : k < σ.length ∧ k ∈ vs
    · simp only [if_pos h]
      exact .inl (by rw [getD_app_lt (by omega)]; exact hn k h.2)
    · simp only [if_neg h]
      refine ⟨trivial, ?_⟩
      by_cases hk : k < σ.length
      · have hv : k ∉ vs := fun z => h ⟨hk, z⟩
        rw [getD_app_lt (by rw [o.1]; exact hk), getD_app_lt hk, List.getD_eq_getElem?_getD, List.getD_eq_getElem?_getD, o.2 k hv]
      · rw [getD_app_ge (by rw [o.1]; omega), getD_app_ge (by omega), o.1]
  · by_cases a1 : k < σ.length ∧ k ∈ vs
    · rw [if_pos a1] at h; cases h
    · by_cases b1 : k' < σ.length ∧ k' ∈ vs
      · rw [if_pos b1] at h'; cases h'
      · rw [if_neg a1] at h; rw [if_neg b1] at h'; cases h; cases h'; rfl
theorem Rel.wipe2 {K : PySem.W.Frag} {Z Y H : Hp} {σ ts : St} {s us : S} (r : Rel K Z Y H (σ ++ ts) (s ++ us)) (hl : σ.length = s.length) (vs : List Nat) : Rel K Z Y H (wipe σ vs ++ ts) (Hs.wipeS s vs ++ us) := by
  refine Rel.unwipe (σ := σ) (vs := vs) ?_ wipe_wipe (by rw [wipeS_len]; exact hl) fun j hj => by rw [wipeS_get, if_pos hj]
  refine r.re (fun k => if k < σ.length ∧ k ∈ vs then none else some k) (by have := r.len; simp only [List.length_append, wipeS_len] at this ⊢; exact this) (fun k => ?_) (fun k k' j h h' => ?_)
  · by_cases h : k < σ.length ∧ k ∈ vs
    · simp only [if_pos h]
      exact .inl (by rw [getD_app_lt (by rw [wipeS_len]; omega), wipeS_get, if_pos h.2])
    · simp only [if_neg h]
      refine ⟨?_, trivial⟩
      by_cases hk : k < σ.length
      · have hv : k ∉ vs := fun z => h ⟨hk, z⟩
        rw [getD_app_lt (by rw [wipeS_len]; omega), getD_app_lt (by omega), wipeS_get, if_neg hv]
      · rw [getD_app_ge (by rw [wipeS_len]; omega), getD_app_ge (by omega), wipeS_len]
  · by_cases a1 : k < σ.length ∧ k ∈ vs
    · rw [if_pos a1] at h; cases h
    · by_cases b1 : k' < σ.length ∧ k' ∈ vs
      · rw [if_pos b1] at h'; cases h'
      · rw [if_neg a1] at h; rw [if_neg b1] at h'; cases h; cases h'; rfl
/-- within a comprehension no error leaves -/
def Lv.in0 (L : Lv) : Lv := { L with E := fun _ _ _ _ => False }
theorem XOk.none {Z Y : Hp} : XOk X L Z Y fun _ _ => False := fun _ _ _ _ _ _ _ _ _ h _ => h.elim
structure PFTs (X : Cx) (L : Lv) (ifs : List Expr) (ft : FT) : Prop where
  h : PTs X ifs (liftT X L ft)
theorem pfts_nil : PFTs X L [] fYes := ⟨⟨fun pins s σ H Q I ⟨Z, Y, s', Xf, Qf, r, k, xo, h, q⟩ => pts_nil.run pins s σ H Q I (q true H Z s' (Same.refl _) r h)⟩⟩
theorem pfts_one {c : Expr} (h : PFT X L c ft) : PFTs X L [c] ft := ⟨pts_one h⟩
theorem fLc_ok {fi : FI} {fg : FG} {vs : List Nat} {σ : St} {H : Hp} {Q : VK} (hv : ∀ j ∈ vs, j ∉ L.io) (h : liftE X L (fLc fi fg vs ft fa) σ H Q) :
    tLc (liftI X L fi) (liftG X L.in0 vs fg) (liftT X L.in0 ft) (liftE X L.in0 fa) vs σ H Q := by
  obtain ⟨Z, Y, s, Xf, Qf, r, k, xo, h, q⟩ := h
  refine ⟨Z, Y, s, Xf, _, r, k, xo, h, fun J H1 Z1 s1 xs hz rl wk ⟨hsz, hcomp⟩ => fun D hD => ?_⟩
  have kw : L.keeps (wipe σ vs) := ⟨by rw [wipe_length]; exact k.1, fun j hj => by
    rw [wipe_get, if_neg (fun z => hv j z hj)]
    exact k.2 j hj⟩
  refine ⟨fun i m H' => ∃ Z' s' acc avs, Same Z1 Z' ∧ Rel X.K Z' Y H' (wipe σ vs ++ [some (.ref D)]) (s' ++ [.l acc]) ∧ s'.length = σ.length ∧ (∀ j ∈ vs, s'.getD j .no = .no) ∧ H' D = some (.lst avs) ∧ avs.length ≤ i ∧ m = xs.length - i ∧ i ≤ xs.length ∧ fComp (fun _ _ => False) fg vs ft fa Qf (xs.drop i) acc s',
    ⟨xs.length, Z1, wipeS s1 vs, [], [], Same.refl _, Rel.wipe2 (rl.newL (vs := []) (xs := []) hD (Nat.zero_le _) .nil) rl.len vs, by rw [wipeS_len]; exact rl.len.symm, fun j hj => by rw [wipeS_get, if_pos hj], upd_same, Nat.le_refl _, rfl, Nat.zero_le _, hcomp⟩, ?_⟩
  rintro i m H' ⟨Z', s', acc, avs, hz', r', hl', hno, hDl, hal, rfl, hle, hl⟩
  have hl'' : (wipe σ vs).length = s'.length := by rw [wipe_length, hl']
  by_cases hlt : i < xs.length
  · refine .inr ⟨wk.go i H' (hz'.trans r'.zh) hlt, fun H2 => ∃ Z2 s2 acc2 avs2, Same Z' Z2 ∧ Rel X.K Z2 Y H2 (wipe σ vs ++ [some (.ref D)]) (s2 ++ [.l acc2]) ∧ s2.length = σ.length ∧ (∀ j ∈ vs, s2.getD j .no = .no) ∧ H2 D = some (.lst avs2) ∧ avs2.length ≤ i + 1 ∧ fComp (fun _ _ => False) fg vs ft fa Qf (xs.drop (i + 1)) acc2 s2,
      fun H2 ⟨Z2, s2, acc2, avs2, hz2, r2, l2, n2, d2, al2, h2⟩ => ⟨xs.length - (i + 1), by omega, Z2, s2, acc2, avs2, hz'.trans hz2, r2, l2, n2, d2, al2, rfl, hlt, h2⟩, fun x H2 hy => ?_⟩
    obtain ⟨d, Z2, hd, n⟩ := wk.yld i H' x H2 Z' hz' r'.zh hlt hy
    have ed : xs.drop i = d :: xs.drop (i + 1) := by
      obtain ⟨h1, h2⟩ := List.getElem?_eq_some_iff.mp hd
      rw [List.drop_eq_getElem_cons hlt, h2]
    rw [ed] at hl
    have r2 : Rel X.K Z2 Y H2 (wipe σ vs ++ [some (.ref D)]) (s' ++ [.l acc]) := r'.grow n.hh n.hz n.zh n.old
    have hD2 : H2 D = some (.lst avs) := n.hh _ _ hDl
    obtain ⟨Y', hy', rl2, back, held⟩ := r2.frame hl''
    have yD : Y' D = some (.lst avs) := by
      obtain ⟨F, p', v', e1, e2, e3, _⟩ := held 0
      cases e1
      exact e3.trans ((rl2.yh _ _ e3).symm.trans hD2)
    have bk : ∀ Z1 H1 σ1 s1, Same Z2 Z1 → Rel X.K Z1 Y' H1 σ1 s1 → Rel X.K Z1 Y H1 σ1 s1 := fun Z1 H1 σ1 s1 hz q => (back Z1 H1 σ1 s1 hz q).take q.len
    refine ⟨Z2, Y', s', d, _, rl2, kw, n.val, hl, fun σ3 s3 k3 o3 r3 h3 => ⟨(wipe_only o3).trans (wipe_only wipe_wipe), ?_⟩⟩
    refine ⟨Z2, Y', s3, fun _ _ => False, _, r3, k3, XOk.none, h3, fun b H3 Z3 s4 hz3 r4 h4 => ?_⟩
    have e34 : wipe σ3 vs = wipe σ vs := (wipe_only o3).trans (wipe_only wipe_wipe)
    cases b with
    | false =>
      have h4 : fComp (fun _ _ => False) fg vs ft fa Qf (xs.drop (i + 1)) acc (Hs.wipeS s4 vs) := h4
      have b4 := back Z3 H3 _ _ hz3 r4
      have w4 := b4.wipe2 r4.len vs
      rw [e34] at w4
      exact ⟨Z3, Hs.wipeS s4 vs, acc, avs, n.hz.trans hz3, w4, by rw [wipeS_len, ← r4.len, o3.1, wipe_length], fun j hj => by rw [wipeS_get, if_pos hj], r4.yh _ _ yD, Nat.le_succ_of_le hal, h4⟩
    | true =>
      have h4 : fa (fun _ _ => False) s4 fun r s3 => frz r s3 fun d s4 => fComp (fun _ _ => False) fg vs ft fa Qf (xs.drop (i + 1)) (acc ++ [d]) (Hs.wipeS s4 vs) := h4
      refine ⟨Z3, Y', s4, fun _ _ => False, _, r4, k3, XOk.none, h4, fun y H5 Z5 r5 s5 hz5 rx5 h5 => ?_⟩
      have hD5 : H5 D = some (.lst avs) := rx5.rel0.yh _ _ yD
      obtain ⟨Z6, d6, s6, hz6, rx6, h6⟩ := frz_ok (us := []) (ds := []) (vs := []) (rs := []) rx5 rfl h5
      have b6 := back Z6 H5 _ _ ((hz3.trans hz5).trans hz6) rx6.rel0
      refine ⟨avs, hD5, Nat.lt_of_le_of_lt hal (Nat.lt_of_lt_of_le hlt hsz), Z6, Hs.wipeS s6 vs, acc ++ [d6], avs ++ [y], ((n.hz.trans hz3).trans hz5).trans hz6, ?_, by rw [wipeS_len, ← rx6.l1, o3.1, wipe_length], fun j hj => by rw [wipeS_get, if_pos hj], upd_same, by rw [List.length_append]; exact Nat.succ_le_succ hal, h6⟩
      have racc : RpAll X.K Z6 avs acc := by
        obtain ⟨F, q⟩ := b6.slot σ3.length
        rw [getD_app_ge (Nat.le_refl _), getD_app_ge (by rw [rx6.l1]; exact Nat.le_refl _), Nat.sub_self, rx6.l1, Nat.sub_self] at q
        obtain ⟨p', v', e1, e2, e3, e4, e5⟩ := q
        cases e1
        rw [hD5] at e3; cases e3
        exact e5
      have w6 := Rel.write (i := σ3.length) (xs' := acc ++ [d6]) (vs' := avs ++ [y]) b6 (by rw [getD_app_ge (by rw [rx6.l1]; exact Nat.le_refl _), rx6.l1, Nat.sub_self]; rfl) (by rw [getD_app_ge (Nat.le_refl _), Nat.sub_self]; rfl)
        (by rw [List.length_append]; exact Nat.succ_le_of_lt (Nat.lt_of_le_of_lt hal (Nat.lt_of_lt_of_le hlt hsz))) (racc.append (.cons rx6.vd .nil))
      rw [List.set_append_right _ _ (by rw [rx6.l1]; exact Nat.le_refl _), rx6.l1, Nat.sub_self] at w6
      have w7 := Rel.wipe2 w6 rx6.l1 vs
      rw [e34] at w7
      exact w7
  · have ei : i = xs.length := by omega
    subst ei
    rw [List.drop_length] at hl
    have r9 : Rel X.K Z' Y H' (σ ++ [some (.ref D)]) (s' ++ [.l acc]) := Rel.unwipe r' (vs := vs) ⟨(wipe_length σ vs).symm, fun j hj => (wipe_wipe.2 j hj).symm⟩ hl'' hno
    exact .inl ⟨wk.stop _ H' (hz'.trans r'.zh) (Nat.le_refl _), q _ H' Z' _ s' (hz.trans hz') (.own hl'.symm r9) hl⟩
end
end Hs
/-! HsE: comprehensions as expressions, calls, defs. -/
namespace Hs
open PySem PySem.Spec PyProof.Rows L2
section
variable {X : Cx} {L : Lv} {e a b c : Expr} {es : List Expr} {fa fb fc : FE} {ft fu : FT} {fr : FA} {pos p : Pos} {ws : List Nat}

theorem pf_lc {elt tg iter : Expr} {ifs : List Expr} {scope : Scope} {own : List (Str × Nat)} {fi : FI} {fg : FG} (hc : X.calm = true) (hN : X.N.Nodup) (hi : PFI X L tg iter fi) (ok : BlkOk X.N X.env.scope scope own)
    (hg : ∀ (s : Shared) (H : Hp) (C : Addr) (cl : List (Str × Addr)) (fp : List Addr), PFG (X.blk s H scope (compEnvC scope cl C X.env) fp) L.in0 (own.map fun p : Str × Nat => p.2) tg fg) (ht : ∀ (s : Shared) (H : Hp) (C : Addr) (cl : List (Str × Addr)) (fp : List Addr), PFTs (X.blk s H scope (compEnvC scope cl C X.env) fp) L.in0 ifs ft)
    (he : ∀ (s : Shared) (H : Hp) (C : Addr) (cl : List (Str × Addr)) (fp : List Addr), PF (X.blk s H scope (compEnvC scope cl C X.env) fp) L.in0 elt fa) (hv : ∀ j ∈ (own.map fun p : Str × Nat => p.2), j ∉ L.io := by exact of_decide_eq_true rfl) (hs : ∀ x, foldedSetIterable iter X.env x = pure x := by intro _; rfl) :
    PF X L (.ListComp elt [⟨tg, iter, ifs, 0⟩] scope pos) (fLc fi fg (own.map fun p : Str × Nat => p.2) ft fa) := PE_imp (pe_lc (own := own) (wi := liftI X L fi) (g := liftG X L.in0 (own.map fun p : Str × Nat => p.2) fg) (tt := liftT X L.in0 ft) (te := liftE X L.in0 fa) hc hN hi ok hg (fun s H C cl fp => (ht s H C cl fp).h) he hs) fun σ H Q h => fLc_ok hv h
theorem pfs_setLc {i : Nat} {y : Str} {py : Pos} {elt tg iter : Expr} {ifs : List Expr} {scope : Scope} {own : List (Str × Nat)} {spos : Pos} {fi : FI} {fg : FG} (hc : X.calm = true) (hN : X.N.Nodup)
    (hsw : swapsWith (.ListComp elt [⟨tg, iter, ifs, 0⟩] scope pos) (some (.Name y py)) spos.line X.env = pure true) (hi : PFI X L tg iter fi) (ok : BlkOk X.N X.env.scope scope own)
    (hg : ∀ (s : Shared) (H : Hp) (C : Addr) (cl : List (Str × Addr)) (fp : List Addr), PFG (X.blk s H scope (compEnvC scope cl C X.env) fp) L.in0 (own.map fun p : Str × Nat => p.2) tg fg) (ht : ∀ (s : Shared) (H : Hp) (C : Addr) (cl : List (Str × Addr)) (fp : List Addr), PFTs (X.blk s H scope (compEnvC scope cl C X.env) fp) L.in0 ifs ft)
    (he : ∀ (s : Shared) (H : Hp) (C : Addr) (cl : List (Str × Addr)) (fp : List Addr), PF (X.blk s H scope (compEnvC scope cl C X.env) fp) L.in0 elt fa) (hy : X.N[i]? = some y := by rfl) (hyl : X.env.scope.names.lookup y = some .local := by rfl) (hio : i ∉ L.io := by exact of_decide_eq_true rfl)
    (hv : ∀ j ∈ (own.map fun p : Str × Nat => p.2), j ∉ L.io := by exact of_decide_eq_true rfl) (hs : ∀ x, foldedSetIterable iter X.env x = pure x := by intro _; rfl) :
    PFS X L (.Assign [.Name y py] (.ListComp elt [⟨tg, iter, ifs, 0⟩] scope pos) spos) (fAsg i (fLc fi fg (own.map fun p : Str × Nat => p.2) ft fa)) :=
  PS_imp (ps_setLc (own := own) (wi := liftI X L fi) (g := liftG X L.in0 (own.map fun p : Str × Nat => p.2) fg) (tt := liftT X L.in0 ft) (te := liftE X L.in0 fa) hc hN hy hyl hsw hi ok hg (fun s H C cl fp => (ht s H C cl fp).h) he hs) fun D σ H ⟨Z, Y, s, Ef, r, k, h, eo⟩ => by
  refine fLc_ok (Q := fun x H1 => gName i x σ H1 D.nx) hv ⟨Z, Y, s, Ef.xx, _, r, k, eo.xx, h, fun v H1 Z1 r1 s1 hz rx h1 => ?_⟩
  obtain ⟨Z2, s2, hz2, rl2, h2⟩ := putR_ok rx h1
  exact eo.nx _ H1 Z2 s2 (hz.trans hz2) (L.keeps_set k hio) rl2 h2

/-! ### calls -/
/-- a def keeps what its text does; io: the parameters that it may change -/
def liftSp (K : PySem.W.Frag) (mg : Str → Option Value) (io : List Nat) (np : Nat) (sem : FSem) : Sp := fun vs H Q E => ∃ Z Y svs Xf Qf, vs.length = np ∧ Rel K Z Y H (vs.map some) svs ∧ sem svs Xf Qf ∧
  (∀ u H' Z' σ' fin r, Same Z Z' → (∀ k ∈ io, σ'.getD k none = (vs.map some).getD k none) → σ'.length = np → RelX K Z' Y H' σ' fin [u] [r] → (∀ i, r ≠ .top i) → Qf r fin → Q u H') ∧
  (∀ n C H' Z' σ' fin, Same Z Z' → (∀ k ∈ io, σ'.getD k none = (vs.map some).getD k none) → σ'.length = np → Rel K Z' Y H' σ' fin → Xf n fin → mg n = some (.ref C) → E (.ref C) none H')

/-- where a lent slot went: what binding does to the slots -/
structure Bound (ms : List Bool) (rs : List R) (s s' : S) : Prop where
  len : s'.length = s.length

theorem app_set {α : Type} (a b : List α) (w x : α) (t : List α) : a ++ (b ++ x :: t) = (a ++ (b ++ w :: t)).set (a.length + b.length) x := by
  rw [List.set_append_right _ _ (by omega), Nat.add_sub_cancel_left, List.set_append_right _ _ (Nat.le_refl _), Nat.sub_self]; rfl
theorem bindA_ok {K : PySem.W.Frag} {Y H : Hp} {σ : St} : ∀ {ms : List Bool} {rs : List R} {vs us : List V} {ds : S} {Z : Hp} {s : S} {k : List SV → S → Prop},
    Rel K Z Y H (σ ++ (us ++ vs).map some) (s ++ (ds ++ rs.map svR)) → σ.length = s.length → us.length = ds.length → vs.length = rs.length → (∀ (j i : Nat), rs[j]? = some (R.top i) → i < σ.length ∧ σ.getD i none = vs[j]?) → bindA ms rs s k →
    ∃ Z' svs s', Same Z Z' ∧ Rel K Z' Y H (σ ++ (us ++ vs).map some) (s' ++ (ds ++ svs)) ∧ s'.length = s.length ∧ svs.length = vs.length ∧ ms.length = rs.length ∧ k svs s'
  | [], [], [], us, ds, Z, s, k, r, hl, hu, hv, tp, h => ⟨Z, [], s, Same.refl _, r, rfl, rfl, rfl, h⟩
  | [], [], _ :: _, us, ds, Z, s, k, r, hl, hu, hv, tp, h => by cases hv
  | [], _ :: _, vs, us, ds, Z, s, k, r, hl, hu, hv, tp, h => h.elim
  | true :: _, [], vs, us, ds, Z, s, k, r, hl, hu, hv, tp, h => h.elim
  | false :: _, [], vs, us, ds, Z, s, k, r, hl, hu, hv, tp, h => h.elim
  | m :: ms, r0 :: rs, [], us, ds, Z, s, k, r, hl, hu, hv, tp, h => by cases hv
  | m :: ms, r0 :: rs, v :: vs, us, ds, Z, s, k, r, hl, hu, hv, tp, h => by
    have tp' : ∀ (j i : Nat), rs[j]? = some (R.top i) → i < σ.length ∧ σ.getD i none = vs[j]? := fun j i e => tp (j + 1) i e
    have hl2 := r.len
    have ev : (us ++ v :: vs) = (us ++ [v]) ++ vs := by simp
    have go : ∀ {Z1 : Hp} {w : SV} {s1 : S} {k1 : List SV → S → Prop}, Same Z Z1 → s1.length = s.length → Rel K Z1 Y H (σ ++ (us ++ v :: vs).map some) (s1 ++ (ds ++ w :: rs.map svR)) → bindA ms rs s1 k1 → (∀ svs s', k1 svs s' → k (w :: svs) s') →
        ∃ Z' svs s', Same Z Z' ∧ Rel K Z' Y H (σ ++ (us ++ v :: vs).map some) (s' ++ (ds ++ svs)) ∧ s'.length = s.length ∧ svs.length = (v :: vs).length ∧ (m :: ms).length = (r0 :: rs).length ∧ k svs s' := by
      intro Z1 w s1 k1 hz1 hl1 r1 h1 hk
      have e2 : ds ++ w :: rs.map svR = (ds ++ [w]) ++ rs.map svR := by simp
      rw [ev, e2] at r1
      obtain ⟨Z', svs, s', hz, r2, hls, hlv, hlm, hk2⟩ := bindA_ok r1 (by rw [hl1]; exact hl) (by simp [hu]) (by simpa using hv) tp' h1
      refine ⟨Z', w :: svs, s', hz1.trans hz, ?_, hls.trans hl1, by simp [hlv], by simp [hlm], hk _ _ hk2⟩
      rw [ev]
      simpa using r2
    have ix : ∀ (w : SV) (t : S), (s ++ (ds ++ w :: t)).getD (s.length + ds.length) .no = w := fun w t => by
      rw [getD_app_ge (by omega), Nat.add_sub_cancel_left, getD_app_ge (Nat.le_refl _), Nat.sub_self]; rfl
    have iv : (σ ++ (us ++ v :: vs).map some).getD (s.length + ds.length) none = some v := by
      rw [← hl, ← hu, getD_app_ge (by omega), Nat.add_sub_cancel_left, List.map_append, getD_app_ge (by simp), List.length_map, Nat.sub_self]; rfl
    -- the k-th argument's content is exchanged: by a value that nobody changes
    have byD : ∀ {Z1 : Hp} {s1 : S} {w : SV} {x : D}, s1.length = s.length → Rel K Z1 Y H (σ ++ (us ++ v :: vs).map some) (s1 ++ (ds ++ w :: rs.map svR)) → Rp K Z1 v x → Rel K Z1 Y H (σ ++ (us ++ v :: vs).map some) (s1 ++ (ds ++ .d x :: rs.map svR)) := by
      intro Z1 s1 w x hl1 r1 rp
      refine r1.re (fun k => if k = s.length + ds.length then none else some k) (by have := r1.len; simpa using this) (fun k => ?_) (fun k k' j h h' => ?_)
      · by_cases hk : k = s.length + ds.length
        · simp only [if_pos hk]
          refine .inr ⟨x, v, ?_, by rw [hk]; exact iv, rp⟩
          rw [hk, ← hl1, getD_app_ge (by omega), Nat.add_sub_cancel_left, getD_app_ge (Nat.le_refl _), Nat.sub_self]; rfl
        · simp only [if_neg hk]
          refine ⟨?_, trivial⟩
          rw [app_set s1 ds w (.d x) (rs.map svR), hl1, getD_set_ne (Ne.symm hk)]
      · by_cases e1 : k = s.length + ds.length
        · rw [if_pos e1] at h; cases h
        · by_cases e2 : k' = s.length + ds.length
          · rw [if_pos e2] at h'; cases h'
          · rw [if_neg e1] at h; rw [if_neg e2] at h'; cases h; cases h'; rfl
    cases m with
    | false =>
      cases r0 with
      | d x => exact go (Same.refl _) rfl r h fun _ _ q => q
      | own w =>
        have h : (match asD w with | some x => bindA ms rs s fun svs s2 => k (.d x :: svs) s2 | none => False) := h
        cases e : asD w with
        | none => rw [e] at h; exact h.elim
        | some x =>
          rw [e] at h
          obtain ⟨Z1, hz1, r1⟩ := r.freeze (i := s.length + ds.length) (x := x) (by rw [show ((R.own w :: rs).map svR) = w :: rs.map svR from rfl, ix]; exact e)
          have es : (s ++ (ds ++ (R.own w :: rs).map svR)).set (s.length + ds.length) (.d x) = s ++ (ds ++ .d x :: rs.map svR) := by
            rw [List.set_append_right _ _ (by omega), Nat.add_sub_cancel_left, List.set_append_right _ _ (Nat.le_refl _), Nat.sub_self]; rfl
          rw [es] at r1
          exact go hz1 rfl r1 h fun _ _ q => q
      | top i =>
        have h : (match asD (s.getD i .no) with | some x => bindA ms rs (s.set i (.d x)) fun svs s2 => k (.d x :: svs) s2 | none => False) := h
        cases e : asD (s.getD i .no) with
        | none => rw [e] at h; exact h.elim
        | some x =>
          rw [e] at h
          obtain ⟨hi, hvi⟩ := tp 0 i rfl
          have his : i < s.length := by omega
          obtain ⟨Z1, hz1, r1⟩ := r.freeze (i := i) (x := x) (by rw [getD_app_lt his]; exact e)
          rw [List.set_append_left _ _ his] at r1
          have rp : Rp K Z1 v x := by
            obtain ⟨F, q⟩ := r1.slot i
            rw [getD_app_lt hi, getD_app_lt (by rw [List.length_set]; exact his), getD_set_self his, hvi] at q
            obtain ⟨_, u, e1, rp⟩ := q
            cases e1
            exact rp
          exact go hz1 (by rw [List.length_set]) (byD (by rw [List.length_set]) r1 rp) h fun _ _ q => q
    | true =>
      cases r0 with
      | d x => exact go (Same.refl _) rfl r h fun _ _ q => q
      | own w => exact go (Same.refl _) rfl r h fun _ _ q => q
      | top i =>
        obtain ⟨hi, hvi⟩ := tp 0 i rfl
        have his : i < s.length := by omega
        have h : bindA ms rs (s.set i .no) fun svs s2 => k (s.getD i .no :: svs) s2 := h
        refine go (w := s.getD i .no) (s1 := s.set i .no) (Same.refl _) (by rw [List.length_set]) ?_ h fun _ _ q => q
        -- the content moves from the slot to the argument
        refine r.re (fun k => if k = s.length + ds.length then some i else if k = i then none else some k) (by have := r.len; simpa using this) (fun k => ?_) (fun k k' j h h' => ?_)
        · by_cases hk : k = s.length + ds.length
          · simp only [if_pos hk]
            refine ⟨?_, ?_⟩
            · rw [hk, getD_app_lt his, getD_app_ge (by rw [List.length_set]; omega), List.length_set, Nat.add_sub_cancel_left, getD_app_ge (Nat.le_refl _), Nat.sub_self]; rfl
            · rw [hk, iv, getD_app_lt hi, hvi]; rfl
          · simp only [if_neg hk]
            by_cases h0 : k = i
            · simp only [if_pos h0]
              exact .inl (by rw [h0, getD_app_lt (by rw [List.length_set]; exact his), getD_set_self his])
            · simp only [if_neg h0]
              refine ⟨?_, trivial⟩
              rw [app_set (s.set i .no) ds .no (s.getD i .no) (rs.map svR), List.length_set, getD_set_ne (Ne.symm hk), ← List.set_append_left _ _ his, getD_set_ne (Ne.symm h0)]
              rfl
        · split at h <;> split at h' <;> (try split at h) <;> (try split at h') <;> (try cases h) <;> (try cases h') <;> (try injection h with h) <;> (try injection h' with h') <;> omega
theorem putB_len : ∀ {ms : List Bool} {rs : List R} {fin s : S}, (putB ms rs fin s).length = s.length
  | true :: ms, .top i :: rs, f :: fin, s => by unfold putB; rw [putB_len, List.length_set]
  | true :: ms, .d x :: rs, f :: fin, s => by unfold putB; exact putB_len
  | true :: ms, .own x :: rs, f :: fin, s => by unfold putB; exact putB_len
  | false :: ms, r :: rs, f :: fin, s => by unfold putB; exact putB_len
  | [], _, _, _ => rfl
  | true :: _, [], _, _ => rfl
  | false :: _, [], _, _ => rfl
  | true :: _, .top _ :: _, [], _ => rfl
  | true :: _, .d _ :: _, [], _ => rfl
  | true :: _, .own _ :: _, [], _ => rfl
  | false :: _, _ :: _, [], _ => rfl
/-- a slot behind the call: as it was, or what the argument that lent it holds -/
theorem putB_at : ∀ {ms : List Bool} {rs : List R} {fin s : S} (i : Nat), (putB ms rs fin s).getD i .no = s.getD i .no ∨ ∃ k : Nat, ms[k]? = some true ∧ rs[k]? = some (.top i) ∧ (putB ms rs fin s).getD i .no = fin.getD k .no
  | true :: ms, .top j :: rs, f :: fin, s, i => by
    unfold putB
    rcases putB_at (ms := ms) (rs := rs) (fin := fin) (s := s.set j f) i with h | ⟨k, h1, h2, h3⟩
    · by_cases hj : j = i
      · subst hj
        by_cases hlt : j < s.length
        · refine .inr ⟨0, rfl, rfl, ?_⟩
          rw [h, getD_set_self hlt]; rfl
        · refine .inl ?_
          rw [h, List.set_eq_of_length_le (by omega)]
      · exact .inl (by rw [h, getD_set_ne hj])
    · exact .inr ⟨k + 1, h1, h2, h3⟩
  | true :: ms, .d x :: rs, f :: fin, s, i => by
    unfold putB
    rcases putB_at (ms := ms) (rs := rs) (fin := fin) (s := s) i with h | ⟨k, h1, h2, h3⟩
    · exact .inl h
    · exact .inr ⟨k + 1, h1, h2, h3⟩
  | true :: ms, .own x :: rs, f :: fin, s, i => by
    unfold putB
    rcases putB_at (ms := ms) (rs := rs) (fin := fin) (s := s) i with h | ⟨k, h1, h2, h3⟩
    · exact .inl h
    · exact .inr ⟨k + 1, h1, h2, h3⟩
  | false :: ms, r :: rs, f :: fin, s, i => by
    unfold putB
    rcases putB_at (ms := ms) (rs := rs) (fin := fin) (s := s) i with h | ⟨k, h1, h2, h3⟩
    · exact .inl h
    · exact .inr ⟨k + 1, h1, h2, h3⟩
  | [], _, _, _, _ => .inl rfl
  | true :: _, [], _, _, _ => .inl rfl
  | false :: _, [], _, _, _ => .inl rfl
  | true :: _, .top _ :: _, [], _, _ => .inl rfl
  | true :: _, .d _ :: _, [], _, _ => .inl rfl
  | true :: _, .own _ :: _, [], _, _ => .inl rfl
  | false :: _, _ :: _, [], _, _ => .inl rfl
/-- the parameters that are lent -/
def ioOf (ms : List Bool) : List Nat := (List.range ms.length).filter fun k => ms.getD k false
theorem mem_ioOf {ms : List Bool} {k : Nat} (h : ms[k]? = some true) : k ∈ ioOf ms := by
  obtain ⟨h1, h2⟩ := List.getElem?_eq_some_iff.mp h
  exact List.mem_filter.mpr ⟨List.mem_range.mpr h1, by rw [List.getD_eq_getElem?_getD, h]; rfl⟩

/-- behind the call: the lent slots hold what the arguments hold -/
theorem back_ok {K : PySem.W.Frag} {Z Y H : Hp} {σ σ' ts : St} {s fin us : S} {ms : List Bool} {rs : List R} {vs : List V} (r : Rel K Z Y H (σ' ++ ts ++ σ) (fin ++ us ++ s)) (hl : σ.length = s.length) (hf : σ'.length = fin.length) (hu : ts.length = us.length)
    (keep : ∀ k ∈ ioOf ms, σ'.getD k none = (vs.map some).getD k none) (hv : vs.length = rs.length) (tp : ∀ (j i : Nat), rs[j]? = some (R.top i) → i < σ.length ∧ σ.getD i none = vs[j]?) (hfl : fin.length = vs.length) : Rel K Z Y H (σ ++ ts) (putB ms rs fin s ++ us) := by
  classical
  have at_ := fun i => putB_at (ms := ms) (rs := rs) (fin := fin) (s := s) i
  refine r.re (fun k => if k < σ.length then (if h : ∃ j : Nat, ms[j]? = some true ∧ rs[j]? = some (.top k) ∧ (putB ms rs fin s).getD k .no = fin.getD j .no then some h.choose else some (σ'.length + ts.length + k)) else if k < σ.length + ts.length then some (k - σ.length + σ'.length) else none)
    (by simp [putB_len, hl, hu]) (fun k => ?_) (fun k k' j h h' => ?_)
  · by_cases hk : k < σ.length
    · simp only [if_pos hk]
      by_cases h : ∃ j : Nat, ms[j]? = some true ∧ rs[j]? = some (.top k) ∧ (putB ms rs fin s).getD k .no = fin.getD j .no
      · simp only [dif_pos h]
        obtain ⟨h1, h2, h3⟩ := h.choose_spec
        generalize h.choose = j at h1 h2 h3
        have hlt : j < vs.length := by rw [hv]; exact (List.getElem?_eq_some_iff.mp h2).1
        refine ⟨?_, ?_⟩
        · rw [getD_app_lt (by rw [putB_len]; omega), h3, List.append_assoc, getD_app_lt (by omega)]
        · rw [getD_app_lt hk, (tp _ _ h2).2, List.append_assoc, getD_app_lt (by omega), keep _ (mem_ioOf h1), List.getD_eq_getElem?_getD, List.getElem?_map]
          rw [List.getElem?_eq_getElem hlt]; rfl
      · simp only [dif_neg h]
        refine ⟨?_, ?_⟩
        · rcases at_ k with q | q
          · rw [getD_app_lt (by rw [putB_len]; omega), q, getD_app_ge (by simp; omega)]
            have e : σ'.length + ts.length + k - (fin ++ us).length = k := by simp; omega
            rw [e]
          · exact absurd q h
        · rw [getD_app_lt hk, getD_app_ge (by simp)]
          have e : σ'.length + ts.length + k - (σ' ++ ts).length = k := by simp
          rw [e]
    · simp only [if_neg hk]
      by_cases hk2 : k < σ.length + ts.length
      · simp only [if_pos hk2]
        refine ⟨?_, ?_⟩
        · rw [getD_app_ge (by rw [putB_len]; omega), List.append_assoc, getD_app_ge (by omega), getD_app_lt (by omega), putB_len]
          congr 1; omega
        · rw [getD_app_ge (by omega), List.append_assoc, getD_app_ge (by omega), getD_app_lt (by omega)]
          congr 1; omega
      · simp only [if_neg hk2]
        exact .inl (getD_out (by simp [putB_len]; omega))
  · by_cases hk : k < σ.length
    · simp only [if_pos hk] at h
      by_cases hk' : k' < σ.length
      · simp only [if_pos hk'] at h'
        by_cases q : ∃ j : Nat, ms[j]? = some true ∧ rs[j]? = some (.top k) ∧ (putB ms rs fin s).getD k .no = fin.getD j .no
        · rw [dif_pos q] at h
          have qlt : q.choose < vs.length := by rw [hv]; exact (List.getElem?_eq_some_iff.mp q.choose_spec.2.1).1
          by_cases q' : ∃ j : Nat, ms[j]? = some true ∧ rs[j]? = some (.top k') ∧ (putB ms rs fin s).getD k' .no = fin.getD j .no
          · rw [dif_pos q'] at h'
            have e : q.choose = q'.choose := Option.some.inj (h.trans h'.symm)
            have e1 := q.choose_spec.2.1
            have e2 := q'.choose_spec.2.1
            rw [e, e2] at e1
            cases e1; rfl
          · rw [dif_neg q'] at h'
            have e := Option.some.inj (h.trans h'.symm)
            omega
        · rw [dif_neg q] at h
          by_cases q' : ∃ j : Nat, ms[j]? = some true ∧ rs[j]? = some (.top k') ∧ (putB ms rs fin s).getD k' .no = fin.getD j .no
          · rw [dif_pos q'] at h'
            have qlt : q'.choose < vs.length := by rw [hv]; exact (List.getElem?_eq_some_iff.mp q'.choose_spec.2.1).1
            have e := Option.some.inj (h.trans h'.symm)
            omega
          · rw [dif_neg q'] at h'
            have e := Option.some.inj (h.trans h'.symm)
            omega
      · simp only [if_neg hk'] at h'
        by_cases hk2 : k' < σ.length + ts.length
        · rw [if_pos hk2] at h'
          by_cases q : ∃ j : Nat, ms[j]? = some true ∧ rs[j]? = some (.top k) ∧ (putB ms rs fin s).getD k .no = fin.getD j .no
          · rw [dif_pos q] at h
            have qlt : q.choose < vs.length := by rw [hv]; exact (List.getElem?_eq_some_iff.mp q.choose_spec.2.1).1
            have e := Option.some.inj (h.trans h'.symm)
            omega
          · rw [dif_neg q] at h
            have e := Option.some.inj (h.trans h'.symm)
            omega
        · rw [if_neg hk2] at h'; cases h'
    · simp only [if_neg hk] at h
      by_cases hk2 : k < σ.length + ts.length
      · rw [if_pos hk2] at h
        by_cases hk' : k' < σ.length
        · simp only [if_pos hk'] at h'
          by_cases q : ∃ j : Nat, ms[j]? = some true ∧ rs[j]? = some (.top k') ∧ (putB ms rs fin s).getD k' .no = fin.getD j .no
          · rw [dif_pos q] at h'
            have qlt : q.choose < vs.length := by rw [hv]; exact (List.getElem?_eq_some_iff.mp q.choose_spec.2.1).1
            have e := Option.some.inj (h.trans h'.symm)
            omega
          · rw [dif_neg q] at h'
            have e := Option.some.inj (h.trans h'.symm)
            omega
        · simp only [if_neg hk'] at h'
          by_cases hk2' : k' < σ.length + ts.length
          · rw [if_pos hk2'] at h'
            have e := Option.some.inj (h.trans h'.symm)
            omega
          · rw [if_neg hk2'] at h'; cases h'
      · rw [if_neg hk2] at h; cases h
/-- the call, by the callee's text -/
theorem fCall_ok {sem : FSem} {ms : List Bool} {n : Nat} {σ : St} {H : Hp} {Q : VK} (hn : ms.length = n) (h : liftE X L (fCall sem ms fr) σ H Q) :
    tCallSD (liftSp X.K X.mg (ioOf ms) n sem) [] (fun σ cls d H => L.E cls d σ H) (liftA X L n fr) σ H Q := by
  obtain ⟨Z, Y, s, Xf, Qf, r, k, xo, h, q⟩ := h
  refine ⟨Z, Y, s, Xf, _, r, k, xo, h, fun vs H1 Z1 rs s1 hz rx hrn h1 => ?_⟩
  obtain ⟨Z2, svs, s2, hz2, r2, hls, hlv, hlm, h2⟩ := bindA_ok (us := []) (ds := []) (vs := vs) (by simpa using rx.rel) rx.l1 rfl rx.l2 rx.top h1
  simp only [List.nil_append] at r2
  have hσ : σ.length = s2.length := by rw [hls]; exact rx.l1
  have hts : (vs.map some).length = svs.length := by rw [List.length_map, hlv]
  -- the arguments alone
  have r3 : Rel X.K Z2 Y H1 ([] ++ vs.map some ++ σ) ([] ++ svs ++ s2) := Rel.swap (σa := []) (sa := []) (by simpa using r2) rfl hσ
  simp only [List.nil_append] at r3
  obtain ⟨Y', hy', r4, back, _⟩ := r3.frame hts
  have hvn : vs.length = n := by rw [rx.l2, hrn]
  rw [List.append_nil]
  refine ⟨Z2, Y', svs, _, _, hvn, r4, h2, fun u H' Z' σ' fin r' hz' keep hl' rx' nt hq => ?_, fun n' C H' Z' σ' fin hz' keep hl' r' hx m => ?_⟩
  · have b := back Z' H' _ _ hz' rx'.rel
    have lf : σ'.length = fin.length := rx'.l1
    have b2 := back_ok (ms := ms) (rs := rs) (vs := vs) b hσ lf (by simp) keep rx.l2 rx.top (by rw [← lf, hl', hvn])
    refine q u H' Z' r' _ ((hz.trans hz2).trans hz') ⟨b2, by rw [putB_len]; exact hσ, rfl, fun k i e => ?_⟩ hq
    cases k with
    | zero => exact absurd (by simpa using e) (nt i)
    | succ k => simp at e
  · have b := back Z' H' _ _ hz' r'
    have lf : σ'.length = fin.length := r'.len
    have b2 := back_ok (ts := []) (us := []) (ms := ms) (rs := rs) (vs := vs) (by simpa using b) hσ lf rfl keep rx.l2 rx.top (by rw [← lf, hl', hvn])
    simp only [List.append_nil] at b2
    exact xo n' C Z' H' σ _ ((hz.trans hz2).trans hz') k b2 hx m
variable {CX : CXT} {k : Nat} {f : Addr} {fd : FuncData} {ps : List Str} {x : Str}
theorem pf_call {sem : FSem} {ms : List Bool} (F : FnOk X.prog X.w X.K X.mg X.base CX k f fd ps (liftSp X.K X.mg (ioOf ms) (es.length + 1) sem)) (hr : Room k X.A) (hm : X.mg x = some (.ref f)) (hk : PySem.W.keepIn X.K (.ref f) = true) (hb : Binds X.K fd ps [])
    (hx : ∀ σ, PassesAt CX X σ (fun cls d H => L.E cls d σ H)) (ha : PFA X L (e :: es) fr) (hg : Gl X x := by rfl) (hn : ms.length = es.length + 1 := by rfl) (hdb : (x == ("__debug__" : Str)) = false := by decide) (he : starEach (e :: es) X.env = (false, eval e X.env) :: starEach es X.env := by rfl) (hpl : (backTo pos (starEach es X.env)).any (·.1) = false := by rfl) :
    PF X L (.Call (.Name x p) (e :: es) [] pos) (fCall sem ms fr) := PE_imp (pe_callSD F hr hg hm hk hb .nil hx ha hdb he hpl) fun σ H Q h => fCall_ok hn h
theorem pass0At : ∀ σ, PassesAt (L2.CX X.prog X.w) X σ (fun cls d H => L.in0.E cls d σ H) := fun σ pins H s e s' I c => passL pins σ H s e s' I c

/-! ### defs -/
variable {P : Program} {w : World} {K : PySem.W.Frag} {mg : Str → Option Value} {base : Heap}
theorem okStart {X : Cx} {N ps : List Str} {io : List Nat} {bd : FS} {vs : List V} {H : Hp} {Q : VK} {E : XK} (hnp : ps.length ≤ N.length) (h : liftSp X.K X.mg io ps.length (semOf ps.length N.length bd) vs H Q E) :
    liftS X ⟨fun cls d _ H => E cls d H, io, L2.start N vs⟩ bd { nx := fun _ H' => Q .non H', rt := Q } (L2.start N vs) H := by
  obtain ⟨Z, Y, svs, Xf, Qf, hl, r, hsem, hq, hx⟩ := h
  have hs : svs.length = ps.length := by have := r.len; rw [List.length_map] at this; omega
  have r0 : Rel X.K Z Y H (L2.start N vs) (svs ++ List.replicate (N.length - ps.length) .no) := by
    unfold L2.start
    rw [hl]
    generalize N.length - ps.length = n
    refine r.re (fun k => if k < svs.length then some k else none) (by simp [hs, hl]) (fun k => ?_) (fun k k' j h h' => ?_)
    · by_cases h : k < svs.length
      · simp only [if_pos h]
        exact ⟨by rw [getD_app_lt h], by rw [getD_app_lt (by simp; omega)]⟩
      · simp only [if_neg h]
        refine .inl ?_
        rw [getD_app_ge (by omega), List.getD_eq_getElem?_getD, List.getElem?_replicate]
        split <;> rfl
    · by_cases a : k < svs.length
      · by_cases b : k' < svs.length
        · rw [if_pos a] at h; rw [if_pos b] at h'; cases h; cases h'; rfl
        · rw [if_neg b] at h'; cases h'
      · rw [if_neg a] at h; cases h
  have tk : ∀ {Z' H' : Hp} {σ' ts : St} {s' us : S}, Rel X.K Z' Y H' (σ' ++ ts) (s' ++ us) → σ'.length = s'.length → Rel X.K Z' Y H' (σ'.take ps.length ++ ts) (s'.take ps.length ++ us) := by
    intro Z' H' σ' ts s' us r' hl'
    have hl2 := r'.len
    simp only [List.length_append] at hl2
    have g1 : ∀ j, j < (σ'.take ps.length).length → (σ'.take ps.length).getD j none = σ'.getD j none := fun j h => by
      rw [List.getD_eq_getElem?_getD, List.getD_eq_getElem?_getD, List.getElem?_take_of_lt (by rw [List.length_take] at h; omega)]
    have g2 : ∀ j, j < (s'.take ps.length).length → (s'.take ps.length).getD j .no = s'.getD j .no := fun j h => by
      rw [List.getD_eq_getElem?_getD, List.getD_eq_getElem?_getD, List.getElem?_take_of_lt (by rw [List.length_take] at h; omega)]
    have hm : (σ'.take ps.length).length = (s'.take ps.length).length := by rw [List.length_take, List.length_take, hl']
    generalize hA : σ'.take ps.length = σt at g1 hm
    generalize hB : s'.take ps.length = st' at g2 hm
    have hle : σt.length ≤ σ'.length := by rw [← hA, List.length_take]; omega
    refine r'.re (fun k => if k < σt.length then some k else if k < σt.length + ts.length then some (k - σt.length + σ'.length) else none) (by simp [hm]; omega) (fun k => ?_) (fun k k' j h h' => ?_)
    · by_cases h1 : k < σt.length
      · simp only [if_pos h1]
        exact ⟨by rw [getD_app_lt (by omega), getD_app_lt (by omega), g2 k (by omega)], by rw [getD_app_lt h1, getD_app_lt (by omega), g1 k h1]⟩
      · simp only [if_neg h1]
        by_cases h2 : k < σt.length + ts.length
        · simp only [if_pos h2]
          refine ⟨?_, ?_⟩
          · rw [getD_app_ge (by omega), getD_app_ge (by omega)]; congr 1; omega
          · rw [getD_app_ge (by omega), getD_app_ge (by omega)]; congr 1; omega
        · simp only [if_neg h2]
          exact .inl (getD_out (by simp; omega))
    · split at h <;> split at h' <;> (try split at h) <;> (try split at h') <;> (try cases h) <;> (try cases h') <;> (try injection h with h) <;> (try injection h' with h') <;> omega
  have tkl : ∀ {Z' H' : Hp} {σ' : St} {s' : S}, Rel X.K Z' Y H' σ' s' → Rel X.K Z' Y H' (σ'.take ps.length) (s'.take ps.length) := fun {Z' H' σ' s'} r' => by
    have := tk (ts := []) (us := []) (by simpa using r') r'.len
    simpa using this
  -- the lent parameters stay in their slots
  have kp : ∀ {σ' : St}, Lv.keeps ⟨fun cls d _ H => E cls d H, io, L2.start N vs⟩ σ' → ∀ k ∈ io, (σ'.take ps.length).getD k none = (vs.map some).getD k none := by
    intro σ' kk k hk
    by_cases hkp : k < ps.length
    · have q := kk.2 k hk
      have q : σ'.getD k none = (L2.start N vs).getD k none := q
      rw [List.getD_eq_getElem?_getD, List.getElem?_take_of_lt hkp, ← List.getD_eq_getElem?_getD, q]
      unfold L2.start
      rw [getD_app_lt (by simp; omega)]
    · rw [getD_out (by rw [List.length_take]; omega), getD_out (by rw [List.length_map]; omega)]
  have stl : (L2.start N vs).length = N.length := by unfold L2.start; simp; omega
  have tl : ∀ {σ' : St}, Lv.keeps ⟨fun cls d _ H => E cls d H, io, L2.start N vs⟩ σ' → (σ'.take ps.length).length = ps.length := fun {σ'} h => by
    have := h.1
    have : σ'.length = (L2.start N vs).length := this
    rw [List.length_take]; omega
  refine ⟨Z, Y, _, _, r0, ⟨rfl, fun _ _ => rfl⟩, hsem, fun σ' H' Z' s' hz kk r' h' => ?_, fun v σ' H' Z' r0' s' hz kk rx h' => ?_, fun _ _ _ _ _ _ _ h' => h'.elim, fun _ _ _ _ _ _ _ h' => h'.elim, fun n C Z' H' σ' s' hz kk r' h' m => ?_⟩
  · exact hq .non H' Z' (σ'.take ps.length) (s'.take ps.length) (.d .none) hz (kp kk) (tl kk) (.d (tkl r') .non) (fun i e => nomatch e) h'
  · have h' : outR r0' s' fun r' s'' => Qf r' (s''.take ps.length) := h'
    have fin : ∀ {s2 : S} {r2 : R}, (∀ i, r2 ≠ .top i) → Rel X.K Z' Y H' (σ' ++ [some v]) (s2 ++ [svR r2]) → σ'.length = s2.length → Qf r2 (s2.take ps.length) → Q v H' := fun {s2 r2} nt rl hl2 hq2 =>
      hq v H' Z' (σ'.take ps.length) (s2.take ps.length) r2 hz (kp kk) (tl kk) ⟨tk rl hl2, by rw [List.length_take, List.length_take, hl2], rfl, .one fun i e => absurd e (nt i)⟩ nt hq2
    cases r0' with
    | d x => exact fin (fun i e => by cases e) rx.rel rx.l1 h'
    | own w => exact fin (fun i e => by cases e) rx.rel rx.l1 h'
    | top i =>
      obtain ⟨hi, hv⟩ := rx.top 0 i rfl
      have his : i < s'.length := by rw [← rx.l1]; exact hi
      refine fin (s2 := s'.set i .no) (r2 := .own (s'.getD i .no)) (fun i e => by cases e) ?_ (by rw [List.length_set]; exact rx.l1) h'
      -- what the slot holds is handed out
      refine rx.rel.re (fun k => if k = σ'.length then some i else if k = i then none else some k) (by have := rx.l1; simp [this]) (fun k => ?_) (fun k k' j h h' => ?_)
      · by_cases hk : k = σ'.length
        · simp only [if_pos hk]
          refine ⟨?_, ?_⟩
          · rw [hk, getD_app_ge (by rw [List.length_set, rx.l1]; exact Nat.le_refl _), List.length_set, rx.l1, Nat.sub_self, getD_app_lt his]; rfl
          · rw [hk, getD_app_ge (Nat.le_refl _), Nat.sub_self, getD_app_lt hi, hv]; rfl
        · simp only [if_neg hk]
          by_cases h0 : k = i
          · simp only [if_pos h0]
            exact .inl (by rw [h0, getD_app_lt (by rw [List.length_set]; exact his), getD_set_self his])
          · simp only [if_neg h0]
            refine ⟨?_, rfl⟩
            have hl1 := rx.l1
            by_cases h1 : k < s'.length
            · rw [getD_app_lt (by rw [List.length_set]; exact h1), getD_app_lt h1, getD_set_ne (Ne.symm h0)]
            · rw [getD_out (by simp; omega), getD_out (by simp; omega)]
      · split at h <;> split at h' <;> (try split at h) <;> (try split at h') <;> (try cases h) <;> (try cases h') <;> (try injection h with h) <;> (try injection h' with h') <;> omega
  · exact hx n C H' Z' (σ'.take ps.length) (s'.take ps.length) hz (kp kk) (tl kk) (tkl r') h' m
theorem okF {q : Str} {st : Stmt} {N : List Str} {io : List Nat} {bd : FS} (F : Fun K x q st f fd) (sco : FnScope N ps (defScope st)) (hnp : ps.length ≤ N.length)
    (hb : ∀ (cdv : Value) (A : Around) (outer : List Env) (s : Shared) (H : Hp) (vs : List V) (E : XK), Room k (A.deeper (envOfC q (defScope st) s.heap.objs.size f cdv)) →
      PFSs (cxOf (L2.CX P w) P w K mg base N q (defScope st) f cdv A outer s H E) ⟨fun cls d _ H => E cls d H, io, L2.start N vs⟩ (defBody st) bd) :
    FnOk P w K mg base (L2.CX P w) (k + 1) f fd ps (liftSp K mg io ps.length (semOf ps.length N.length bd)) := by
  refine F.okX sco (fun vs H Q E ⟨_, _, _, _, _, hl, _⟩ => hl) fun cdv A outer s H vs Q E hr h => ⟨_, hb cdv A outer s H vs E hr, okStart hnp h⟩
end
end Hs
/-! HsV: operators and built-ins by values. -/
namespace Hs
open PySem

/-- factors whose product may be had; a divisor -/
def okM (i j : Int) : Prop := i.natAbs.log2 + j.natAbs.log2 < 1000000
def okD (j : Int) : Prop := 0 < j ∧ j.natAbs.log2 < 9000
def opAdd : V2 := fun d e Q => match d, e with
  | .int i, .int j => Q (.d (.int (i + j)))
  | .str x, .str y => x.length + y.length ≤ sizeLine ∧ Q (.d (.str (x ++ y)))
  | .list xs, .list ys => xs.length + ys.length ≤ sizeLine ∧ Q (.own (.l (xs ++ ys)))
  | .tuple xs, .tuple ys => xs.length + ys.length ≤ sizeLine ∧ Q (.d (.tuple (xs ++ ys)))
  | _, _ => False
def opSub : V2 := fun d e Q => match d, e with
  | .int i, .int j => Q (.d (.int (i - j)))
  | _, _ => False
def opMul : V2 := fun d e Q => match d, e with
  | .int i, .int j => okM i j ∧ Q (.d (.int (i * j)))
  | .list xs, .int k => -(2 ^ 63) ≤ k ∧ k < 2 ^ 63 ∧ xs.length * k.toNat ≤ sizeLine ∧ Q (.own (.l (List.replicate k.toNat xs).flatten))
  | .tuple xs, .int k => xs ≠ [] ∧ 0 ≤ k ∧ k ≤ 1000 ∧ xs.length ≤ 1000 ∧ Q (.d (.tuple (List.replicate k.toNat xs).flatten))
  | _, _ => False
def opFdiv : V2 := fun d e Q => match d, e with
  | .int i, .int j => okD j ∧ Q (.d (.int (i / j)))
  | _, _ => False
def opMod : V2 := fun d e Q => match d, e with
  | .int i, .int j => 0 < j ∧ Q (.d (.int (i % j)))
  | _, _ => False
def opPow : V2 := fun d e Q => match d, e with
  | .int i, .int j => 0 ≤ j ∧ j ≤ 1000000 ∧ i.natAbs < 2 ^ 64 ∧ Q (.d (.int (i ^ j.toNat)))
  | _, _ => False
def uNeg : V1 := fun d Q => match d with
  | .int i => Q (.d (.int (-i)))
  | _ => False
/-! ### comparisons -/
/-- what is compared: the text's own list as a list -/
def unlit : D → D
  | .dict [(.none, .list xs)] => .list xs
  | d => d
def cEq : V2 := fun d e Q => (∃ x y, d = .str x ∧ e = .str y ∧ Q (.d (.bool (decide (x = y))))) ∨ (SeqAt.shaped (unlit d) = true ∧ SeqAt.shaped (unlit e) = true ∧ Q (.d (.bool (PyData.eqv (unlit d) (unlit e)))))
def cNe : V2 := fun d e Q => (∃ x y, d = .str x ∧ e = .str y ∧ Q (.d (.bool (!decide (x = y))))) ∨ (SeqAt.shaped (unlit d) = true ∧ SeqAt.shaped (unlit e) = true ∧ Q (.d (.bool (!PyData.eqv (unlit d) (unlit e)))))
/-- xs[::-1] -/
def revD : V1 := fun d Q => match d with
  | .list xs => Q (.own (.l xs.reverse))
  | .tuple xs => Q (.d (.tuple xs.reverse))
  | _ => False
def intsOf : List D → Option (List Int)
  | [] => some []
  | .int i :: r => (intsOf r).map (i :: ·)
  | _ => none
def cLt : V2 := fun d e Q => match d, e with
  | .int i, .int j => Q (.d (.bool (decide (i < j))))
  | .tuple xs, .tuple ys => match intsOf xs, intsOf ys with
    | some ns, some ms => Q (.d (.bool (HT.lexLt ns ms)))
    | _, _ => False
  | _, _ => False
def cLe : V2 := fun d e Q => match d, e with
  | .int i, .int j => Q (.d (.bool (decide (i ≤ j))))
  | _, _ => False
def cGt : V2 := fun d e Q => match d, e with
  | .int i, .int j => Q (.d (.bool (decide (j < i))))
  | _, _ => False
def cGe : V2 := fun d e Q => match d, e with
  | .int i, .int j => Q (.d (.bool (decide (j ≤ i))))
  | _, _ => False
def cIn : V2 := fun d e Q => match e with
  | .list xs => SeqAt.shaped d = true ∧ SeqAt.shaped (.list xs) = true ∧ Q (.d (.bool (xs.any fun z => PyData.eqv z d)))
  | .tuple xs => SeqAt.shaped d = true ∧ SeqAt.shaped (.tuple xs) = true ∧ Q (.d (.bool (xs.any fun z => PyData.eqv z d)))
  | _ => False
def cNotIn : V2 := fun d e Q => match e with
  | .list xs => SeqAt.shaped d = true ∧ SeqAt.shaped (.list xs) = true ∧ Q (.d (.bool (!xs.any fun z => PyData.eqv z d)))
  | .tuple xs => SeqAt.shaped d = true ∧ SeqAt.shaped (.tuple xs) = true ∧ Q (.d (.bool (!xs.any fun z => PyData.eqv z d)))
  | _ => False
def isNone : D → Bool
  | .none => true
  | _ => false
def pairOf : D → Option (Int × Int)
  | .tuple [.int i, .int j] => some (i, j)
  | _ => none
def pairsOf : List D → Option (List (Int × Int))
  | [] => some []
  | x :: r => match pairOf x, pairsOf r with
    | some p, some ps => some (p :: ps)
    | _, _ => none
abbrev pairD (p : Int × Int) : D := .tuple [.int p.1, .int p.2]
def ltPr (p q : Int × Int) : Bool := decide (p.1 < q.1) || (p.1 == q.1 && decide (p.2 < q.2))
/-- sorted: of ints, of pairs of ints (a list) -/
def bSortI : VN := fun ds Q => match ds with
  | [.list xs] => match intsOf xs with
    | some ns => ∀ ms : List Int, ms.Perm ns → ms.Pairwise (· ≤ ·) → Q (.own (.l (ms.map .int)))
    | none => False
  | _ => False
def bSortP : VN := fun ds Q => match ds with
  | [.list xs] => match pairsOf xs with
    | some ps => ∀ qs : List (Int × Int), qs.Perm ps → qs.Pairwise (fun p q => ltPr q p = false) → Q (.own (.l (qs.map pairD)))
    | none => False
  | _ => False
def bCntI : LM := fun xs ds k => match intsOf xs, ds with
  | some ns, [.int j] => k (.int (ns.count j : Nat)) xs
  | _, _ => False
def cIs : V2 := fun d e Q => match d, e with
  | d, .none => Q (.d (.bool (isNone d)))
  | .bool a, .bool b => Q (.d (.bool (decide (a = b))))
  | _, _ => False
def cIsNot : V2 := fun d e Q => match d, e with
  | d, .none => Q (.d (.bool (!isNone d)))
  | .bool a, .bool b => Q (.d (.bool (!decide (a = b))))
  | _, _ => False
/-! ### places -/
def ixD : V2 := fun d e Q => match d, e with
  | .list xs, .int i => match L2.atI xs i with
    | some x => Q (.d x)
    | none => False
  | .tuple xs, .int i => match L2.atI xs i with
    | some x => Q (.d x)
    | none => False
  | .str z, .int i => z.length ≤ sizeLine ∧ match L2.atI z.cps.toList i with
    | some c => Q (.d (.str ⟨#[c]⟩))
    | none => False
  | .dict [(.none, .list xs)], .int i => match L2.atI xs i with
    | some x => Q (.d x)
    | none => False
  | _, _ => False
def slD (d : D) (lo hi : Option Int) (Q : R → Prop) : Prop := match d with
  | .list xs => Q (.own (.l (cutL xs lo hi)))
  | .tuple xs => Q (.d (.tuple (cutL xs lo hi)))
  | _ => False
where cutL (xs : List D) (lo hi : Option Int) : List D := (xs.drop (HT.sIx xs.length 0 lo)).take (HT.sIx xs.length xs.length hi - HT.sIx xs.length 0 lo)
/-! ### built-ins -/
def bLen : VN := fun ds Q => match ds with
  | [.list xs] => Q (.d (.int (xs.length : Nat)))
  | [.tuple xs] => Q (.d (.int (xs.length : Nat)))
  | [.str x] => x.length ≤ sizeLine ∧ Q (.d (.int (x.length : Nat)))
  | [.dict [(.none, .list xs)]] => Q (.d (.int (xs.length : Nat)))
  | _ => False
def bAbs : VN := fun ds Q => match ds with
  | [.int i] => Q (.d (.int (if i < 0 then -i else i)))
  | _ => False
def bMax2 : VN := fun ds Q => match ds with
  | [.int i, .int j] => Q (.d (.int (if j > i then j else i)))
  | _ => False
def bMin2 : VN := fun ds Q => match ds with
  | [.int i, .int j] => Q (.d (.int (if j < i then j else i)))
  | _ => False
def bInt : VN := fun ds Q => match ds with
  | [.int i] => Q (.d (.int i))
  | [.bool b] => Q (.d (.int (if b then 1 else 0)))
  | _ => False
def bStr : VN := fun ds Q => match ds with
  | [.int i] => i.natAbs.log2 < 1920 ∧ Q (.d (.str (toString i)))
  | _ => False
def bTuple : VN := fun ds Q => match ds with
  | [.list xs] => Q (.d (.tuple xs))
  | [.tuple xs] => Q (.d (.tuple xs))
  | _ => False
def bList : VN := fun ds Q => match ds with
  | [.list xs] => Q (.own (.l xs))
  | [.tuple xs] => Q (.own (.l xs))
  | _ => False
def boolsOf : List D → Option (List Bool)
  | [] => some []
  | .bool i :: r => (boolsOf r).map (i :: ·)
  | _ => none
def bAll : VN := fun ds Q => match ds with
  | [.list xs] => match boolsOf xs with
    | some bs => Q (.d (.bool (bs.all id)))
    | none => False
  | _ => False
def bAny : VN := fun ds Q => match ds with
  | [.list xs] => match boolsOf xs with
    | some bs => Q (.d (.bool (bs.any id)))
    | none => False
  | _ => False
def bMaxL : VN := fun ds Q => match ds with
  | [.list xs] => match intsOf xs with
    | some ns => 0 < ns.length ∧ ∀ m, m ∈ ns → (∀ y, y ∈ ns → y ≤ m) → Q (.d (.int m))
    | none => False
  | [.tuple xs] => match intsOf xs with
    | some ns => 0 < ns.length ∧ ∀ m, m ∈ ns → (∀ y, y ∈ ns → y ≤ m) → Q (.d (.int m))
    | none => False
  | _ => False
def bMinL : VN := fun ds Q => match ds with
  | [.list xs] => match intsOf xs with
    | some ns => 0 < ns.length ∧ ∀ m, m ∈ ns → (∀ y, y ∈ ns → m ≤ y) → Q (.d (.int m))
    | none => False
  | [.tuple xs] => match intsOf xs with
    | some ns => 0 < ns.length ∧ ∀ m, m ∈ ns → (∀ y, y ∈ ns → m ≤ y) → Q (.d (.int m))
    | none => False
  | _ => False
def bSum : VN := fun ds Q => match ds with
  | [.list xs] => match intsOf xs with
    | some ns => Q (.d (.int ns.sum))
    | none => False
  | _ => False
def isTy : String → D → Bool
  | "int", .int _ => true
  | "int", .bool _ => true
  | "bool", .bool _ => true
  | "tuple", .tuple _ => true
  | "list", .list _ => true
  | "str", .str _ => true
  | "dict", .dict _ => true
  | _, _ => false
def isLit : D → Bool
  | .dict ((.none, .none) :: _) => false
  | .dict ((.none, _) :: _) => true
  | _ => false
def bIs (T : String) : V1 := fun d Q => isLit d = false ∧ Q (.d (.bool (isTy T d)))
end Hs
/-! HsF: the operators and built-ins of HsV are those of the machine. -/
namespace Hs
open PySem PySem.Spec PyProof.Rows L2
section
variable {X : Cx} {L : Lv} {e a b c : Expr} {es : List Expr} {fa fb fc : FE} {ft fu : FT} {fr : FA} {pos p : Pos}
variable {K : PySem.W.Frag} {Z H : Hp}

/-- an operator's rule from two ints -/
theorem op2i {f : Value → Value → Sem Value} {C : Int → Int → Prop} {g : Int → Int → V} (h : OpR X f (rI C g)) {pins : List (Addr × Obj)} {s : Shared} {σ : St} {H : Hp} {v u : Value} {Q : VK} {i j : Int} (I : Inv X pins σ H s) (rx : RelV (.int i) v) (ry : RelV (.int j) u) (hc : C i j) (q : Q (g i j) H) :
    wpAny (model X.prog X.w) X.A (f v u) (EP X pins σ Q) X.xe s := h pins s σ H (.int i) (.int j) v u Q I rx ry ⟨i, j, rfl, rfl, hc, q⟩
theorem add_lists {pins : List (Addr × Obj)} {s : Shared} {σ : St} {H : Hp} {l b : Addr} {xs zs : List V} {Q : VK} (I : Inv X pins σ H s) (hH : Rd H l (.lst xs)) (hB : Rd H b (.lst zs)) (hz : xs.length + zs.length ≤ sizeLine) (q : ∀ p, H p = none → Q (.ref p) (upd H p (.lst (xs ++ zs)))) :
    wpAny (model X.prog X.w) X.A (binaryOp .Add (.ref l) (.ref b)) (EP X pins σ Q) X.xe s := by
  obtain ⟨hl, its, n, r, e⟩ := hH.ok I.hok
  obtain ⟨hl2, its2, n2, r2, e2⟩ := hB.ok I.hok
  have h1 := r.length
  have h2 := r2.length
  refine PySem.P.add_list e e2 ?g ?z
  case z => simp only [List.size_toArray]; omega
  have ea : its.toArray ++ its2.toArray = (its ++ its2).toArray := by simp
  rw [ea]
  exact ⟨.ref _, _, I.lnew (t' := s.toks) (r.append r2) (by rw [List.length_append]; omega), rfl, q _ I.fresh⟩
theorem fop_add : OpR X (binaryOp .Add) (rF2 X.K opAdd) := by
  intro pins s σ H x y v u Q I rx ry ⟨Z, d, e, Qf, hz, hd, he, g, q⟩
  unfold opAdd at g
  split at g
  · cases hd.int; cases he.int
    exact op_add pins s σ H _ _ v u Q I rx ry ⟨_, _, rfl, rfl, q _ H Z _ (.d hz (.int _)) g⟩
  · cases hd.str; cases he.str
    exact op_add_str pins s σ H _ _ v u Q I rx ry ⟨_, _, rfl, rfl, g.1, q _ H Z _ (.d hz (.str _)) g.2⟩
  · obtain ⟨p, vs, rfl, h1, h2, h3⟩ := hd.list hz
    obtain ⟨p', vs', rfl, h1', h2', h3'⟩ := he.list hz
    cases rx; cases ry
    have l1 := h3.length
    have l2 := h3'.length
    exact add_lists I h1 h1' (by omega) fun n hn => q _ _ Z _ (.lst hz hn (by rw [List.length_append]; omega) (h3.append h3')) g.2
  · obtain ⟨p, vs, rfl, h1, h2, h3⟩ := hd.tuple hz
    obtain ⟨p', vs', rfl, h1', h2', h3'⟩ := he.tuple hz
    have l1 := h3.length
    have l2 := h3'.length
    refine op_catA pins s σ H _ _ v u Q I rx ry ⟨p, p', vs, vs', rfl, rfl, h1, h1', by omega, fun e => ?_, fun e1 e2 => ?_, fun e1 e2 n hn => ?_⟩
    · subst e
      cases h3
      have ez : Rp X.K Z (.ref p') (.tuple _) := RpV.tupZ he
      exact q _ H Z _ (.d hz ez) g.2
    · subst e2
      cases h3'
      have ez : Rp X.K Z (.ref p) (.tuple _) := RpV.tupZ hd
      rw [List.append_nil] at g
      exact q _ H Z _ (.d hz ez) g.2
    · exact q _ _ _ _ (.tup hz hn (by rw [List.length_append]; omega) (h3.append h3')) g.2
  · exact g.elim
where
  RpV.tupZ {K : PySem.W.Frag} {Z H : Hp} {v : V} {xs : List D} (r : RpV K Z H v (.tuple xs)) : Rp K Z v (.tuple xs) := by
    rcases r with r | ⟨p, vs, xs', rfl, e2, h, z, a⟩ | ⟨p, kvs, rfl, e2, h⟩
    · exact r
    · cases e2
    · cases e2
theorem fop_sub : OpR X (binaryOp .Sub) (rF2 X.K opSub) := by
  intro pins s σ H x y v u Q I rx ry ⟨Z, d, e, Qf, hz, hd, he, g, q⟩
  unfold opSub at g
  split at g
  · cases hd.int; cases he.int
    exact op_sub pins s σ H _ _ v u Q I rx ry ⟨_, _, rfl, rfl, q _ H Z _ (.d hz (.int _)) g⟩
  · exact g.elim
theorem rep_list {pins : List (Addr × Obj)} {s : Shared} {σ : St} {H : Hp} {l : Addr} {k : Int} {t : Tok} {xs : List V} {Q : VK} (I : Inv X pins σ H s) (hH : Rd H l (.lst xs)) (h1 : -(2 ^ 63) ≤ k) (h2 : k < 2 ^ 63) (hz : xs.length * k.toNat ≤ sizeLine) (q : ∀ p, H p = none → Q (.ref p) (upd H p (.lst (List.replicate k.toNat xs).flatten))) :
    wpAny (model X.prog X.w) X.A (binaryOp .Mult (.ref l) (.int k t)) (EP X pins σ Q) X.xe s := by
  obtain ⟨_, its, n, r, e⟩ := hH.ok I.hok
  have hl := r.length
  have hlen : its.toArray.size * k.toNat ≤ sizeLine := by rw [List.size_toArray, ← hl]; exact hz
  have hcap : ¬ its.toArray.size * k.toNat > (2 ^ 63 - 1) / 8 := by
    have : (sizeLine : Nat) ≤ (2 ^ 63 - 1) / 8 := by decide
    omega
  have hfit : ¬ (!Builtin.List.listFitsIndex k) = true := by
    rw [fitsIndex_both h1 h2]
    exact Bool.false_ne_true
  have hlong : ¬ Builtin.List.listTooLong (its.toArray.size * k.toNat) = true := by
    rw [notLongL hlen]
    exact Bool.false_ne_true
  have hnew : List.foldl (fun x1 x2 => x1 ++ x2) #[] (List.replicate (if its.toArray.isEmpty = true then 0 else k.toNat) its.toArray) = (List.replicate k.toNat its).flatten.toArray := by
    have f0 : ∀ m : Nat, List.foldl (fun x1 x2 => x1 ++ x2) #[] (List.replicate m its.toArray) = (List.replicate m its).flatten.toArray := fun m => by
      have := foldl_rep its m []
      rw [List.nil_append] at this
      exact this
    rw [f0]
    cases its with
    | nil => simp
    | cons a r' => rw [if_neg (by simp)]
  refine wpAny_binaryOp_repeat_ref (T := "list") (U := "int") (by decide) ⟨_, e, rfl⟩ (fun s' => typeIs_int s' k t) noFill_list_mul F.fills_int_mul F.slot_int_rmul repeat_list F.slot_int_index.lookup
    (call_meets F.slot_int_rmul (typeIs_int s k t) F.entry_int_rmul (F.args_int_rmul_2 _ _) (int___rmul___int_list k t l its.toArray n)
      ⟨e, rfl, ⟨_, e, rfl⟩, call_meets F.slot_list_mul ⟨_, e, rfl⟩ F.entry_list_mul (F.args_list_mul_2 _ _) (AutoListH.list___mul___list_int_3 l its.toArray n k t hfit hcap hlong) ⟨e, ?_⟩⟩)
  rw [hnew]
  exact ⟨.ref _, _, I.lnew (t' := s.toks) (r.rep k.toNat) (by rw [PyProof.Rows.lm_len_rep_flat, Nat.mul_comm]; exact hz), rfl, q _ I.fresh⟩
theorem tmul_one (l : Addr) (items : Array Value) (n : Nat) (dd : Option Addr) (sl : Array (Option Value)) (u : Tok) :
    Meets (Builtin.«tuple.__mul__» ⟨[.ref l, .int 1 u], []⟩) (fun _ R s => s.heap.get? l = some { cls := .type "tuple", dict := dd, data := .seq items n, slots := sl } ∧ R (.ok (.ret (Value.ref l))) s) :=
  .of_wp fun prog w A R s h => by
    obtain ⟨hp, g, d, tk, os⟩ := s
    obtain ⟨hl, h⟩ := h
    have f1 := AutoSeq1.idx_int
    wp_walk using wpAny_loadPart' hl
    repeat (first
      | (refine wpAny_ite_true (by simp) ?_; wp_walk using wpAny_loadPart' hl)
      | (refine wpAny_ite_false (by simp) ?_; wp_walk using wpAny_loadPart' hl))
    exact ⟨_, rfl, h⟩
theorem tmul_none (l : Addr) (items : Array Value) (n : Nat) (dd : Option Addr) (sl : Array (Option Value)) (u : Tok) (hne : items.isEmpty = false) :
    Meets (Builtin.«tuple.__mul__» ⟨[.ref l, .int 0 u], []⟩) (fun _ R s => s.heap.get? l = some { cls := .type "tuple", dict := dd, data := .seq items n, slots := sl } ∧
      R (.ok (.ret (Value.ref s.heap.objs.size))) { s with heap := s.heap.push { cls := Value.type "tuple", data := Data.seq #[] }, toks := s.toks }) :=
  .of_wp fun prog w A R s h => by
    obtain ⟨hp, g, d, tk, os⟩ := s
    obtain ⟨hl, h⟩ := h
    have f1 := AutoSeq1.idx_int
    have z0 : (#[] : Array Value).size ≤ sizeLine := Nat.zero_le _
    wp_walk using wpAny_loadPart' hl
    repeat (first
      | (refine wpAny_ite_true (by simp [hne]) ?_; wp_walk using wpAny_loadPart' hl)
      | (refine wpAny_ite_false (by simp [hne]) ?_; wp_walk using wpAny_loadPart' hl))
    exact ⟨_, rfl, h⟩
theorem rep_tuple {pins : List (Addr × Obj)} {s : Shared} {σ : St} {H : Hp} {l : Addr} {k : Int} {t : Tok} {xs : List V} {Q : VK} (I : Inv X pins σ H s) (hT : SqT X.K H l xs) (hne : xs ≠ []) (hk : k = 0 ∨ k = 1) (q1 : k = 1 → Q (.ref l) H) (q0 : k = 0 → ∀ p, H p = none → Q (.ref p) (upd H p (.tup []))) :
    wpAny (model X.prog X.w) X.A (binaryOp .Mult (.ref l) (.int k t)) (EP X pins σ Q) X.xe s := by
  obtain ⟨its, r, ⟨⟨cls, dd, data, sl⟩, ho, hc, n, hd⟩, hs⟩ := I.tuple hT
  simp only at hc hd
  subst hc hd
  have full : its.toArray.isEmpty = false := by
    cases r with
    | nil => exact absurd rfl hne
    | cons _ _ => rfl
  refine wpAny_binaryOp_repeat_ref (T := "tuple") (U := "int") (by decide) ⟨_, ho, rfl⟩ (fun s' => typeIs_int s' k t) noFill_tuple_mul F.fills_int_mul F.slot_int_rmul repeat_tuple F.slot_int_index.lookup ?_
  refine call_meets F.slot_int_rmul (typeIs_int s k t) F.entry_int_rmul (F.args_int_rmul_2 _ _) (int_rmul_tuple k t l its.toArray n dd sl) ⟨ho, rfl, ⟨_, ho, rfl⟩, ?_⟩
  rcases hk with rfl | rfl
  · refine call_meets F.slot_tuple_mul ⟨_, ho, rfl⟩ F.entry_tuple_mul (F.args_tuple_mul_2 _ _) (tmul_none l its.toArray n dd sl t full) ⟨ho, ?_⟩
    exact ⟨.ref s.heap.objs.size, _, I.laid (t' := s.toks) (o := .tup []) (fun b ob q => Heap.get?_push_of_some _ q) (Nat.le_refl _) ⟨Nat.zero_le _, [], .nil, IsTup.new _ _⟩, rfl, q0 rfl _ (I.hok.fresh (Nat.le_refl _))⟩
  · refine call_meets F.slot_tuple_mul ⟨_, ho, rfl⟩ F.entry_tuple_mul (F.args_tuple_mul_2 _ _) (tmul_one l its.toArray n dd sl t) ⟨ho, ?_⟩
    exact ⟨.ref l, H, I, rfl, q1 rfl⟩
theorem fop_mul : OpR X (binaryOp .Mult) (rF2 X.K opMul) := by
  intro pins s σ H x y v u Q I rx ry ⟨Z, d, e, Qf, hz, hd, he, g, q⟩
  unfold opMul at g
  split at g
  · cases hd.int; cases he.int
    exact op_mulW pins s σ H _ _ v u Q I rx ry ⟨_, _, rfl, rfl, g.1, q _ H Z _ (.d hz (.int _)) g.2⟩
  · obtain ⟨p, vs, rfl, h1, h2, h3⟩ := hd.list hz
    cases he.int
    cases rx
    obtain ⟨t, rfl⟩ := ry
    have l1 := h3.length
    have rr : ∀ n : Nat, RpAll X.K Z (List.replicate n vs).flatten (List.replicate n _).flatten := fun n => by
      induction n with
      | zero => exact .nil
      | succ n ih => rw [List.replicate_succ, List.flatten_cons, List.replicate_succ, List.flatten_cons]; exact h3.append ih
    refine rep_list I h1 g.1 g.2.1 (by rw [l1]; exact g.2.2.1) fun n hn => q _ _ Z _ (.lst hz hn ?_ (rr _)) g.2.2.2
    rw [(rr _).length, List.length_flatten, List.map_replicate, List.sum_replicate_nat, Nat.mul_comm]
    exact g.2.2.1
  · obtain ⟨g1, g2, g3, g4, g5⟩ := g
    obtain ⟨p, vs, rfl, h1, h2, h3⟩ := hd.tuple hz
    have ez : Rp X.K Z (.ref p) (.tuple _) := fop_add.RpV.tupZ hd
    cases he.int
    have l1 := h3.length
    have rr : ∀ n : Nat, RpAll X.K Z (List.replicate n vs).flatten (List.replicate n _).flatten := fun n => by
      induction n with
      | zero => exact .nil
      | succ n ih => rw [List.replicate_succ, List.flatten_cons, List.replicate_succ, List.flatten_cons]; exact h3.append ih
    have hne : vs ≠ [] := fun e => g1 (List.eq_nil_of_length_eq_zero (by rw [← l1, e]; rfl))
    rename_i k
    by_cases hk : k = 0 ∨ k = 1
    · obtain ⟨t, rfl⟩ := ry
      cases rx
      refine rep_tuple I h1 hne hk (fun e => ?_) fun e n hn => ?_
      · subst e
        rw [show (List.replicate (1 : Int).toNat _).flatten = _ from List.append_nil _] at g5
        exact q _ H Z _ (.d hz ez) g5
      · subst e
        exact q _ _ _ _ (.tup hz hn (Nat.zero_le _) .nil) g5
    · refine op_repT pins s σ H _ _ v u Q I rx ry ⟨p, k, vs, rfl, rfl, h1, hne, by omega, g3, by omega, fun n hn => ?_⟩
      refine q _ _ _ _ (.tup hz hn ?_ (rr _)) g5
      rw [(rr _).length, List.length_flatten, List.map_replicate, List.sum_replicate_nat]
      show _ ≤ 16777216
      have a1 : k.toNat * _ ≤ 1000 * 1000 := Nat.mul_le_mul (by omega) g4
      omega
  · exact g.elim
theorem fop_fdiv : OpR X (binaryOp .FloorDiv) (rF2 X.K opFdiv) := by
  intro pins s σ H x y v u Q I rx ry ⟨Z, d, e, Qf, hz, hd, he, g, q⟩
  unfold opFdiv at g
  split at g
  · cases hd.int; cases he.int
    exact op_fdivW pins s σ H _ _ v u Q I rx ry ⟨_, _, rfl, rfl, g.1, q _ H Z _ (.d hz (.int _)) g.2⟩
  · exact g.elim
theorem fop_mod : OpR X (binaryOp .Mod) (rF2 X.K opMod) := by
  intro pins s σ H x y v u Q I rx ry ⟨Z, d, e, Qf, hz, hd, he, g, q⟩
  unfold opMod at g
  split at g
  · cases hd.int; cases he.int
    refine op_modN pins s σ H _ _ v u Q I rx ry ⟨_, _, rfl, rfl, by have := g.1; omega, ?_⟩
    have g1 := g.1
    show Q (.int (Int.fmod _ _)) H
    rw [Int.fmod_eq_emod_of_nonneg _ (by omega)]
    exact q _ H Z _ (.d hz (.int _)) g.2
  · exact g.elim
theorem fop_pow : OpR X (binaryOp .Pow) (rF2 X.K opPow) := by
  intro pins s σ H x y v u Q I rx ry ⟨Z, d, e, Qf, hz, hd, he, g, q⟩
  unfold opPow at g
  split at g
  · cases hd.int; cases he.int
    exact op_pow pins s σ H _ _ v u Q I rx ry ⟨_, _, rfl, rfl, ⟨g.1, g.2.1, g.2.2.1⟩, q _ H Z _ (.d hz (.int _)) g.2.2.2⟩
  · exact g.elim
theorem fun_neg : UnR X (unaryOp .USub) (rF1 X.K uNeg) := by
  intro pins s σ H x v Q I rx ⟨Z, d, Qf, hz, hd, g, q⟩
  unfold uNeg at g
  split at g
  · cases hd.int
    exact un_neg pins s σ H _ v Q I rx ⟨_, rfl, q _ H Z _ (.d hz (.int _)) g⟩
  · exact g.elim

/-! ### data, for == and in -/
mutual
theorem Rp.dp : ∀ (d : PyData) (v : V), d.canLay0 = true → Rp K H v d → Dp K H v d
  | .none, _, _, .non => .non
  | .bool _, _, _, .bl b => .bl b
  | .int _, _, _, .int i => .int i
  | .str _, _, _, .str x => .str x
  | .list ds, _, h, .lst q z a => .lst (.inl q) (RpAll.dp ds _ (by simpa [PyData.canLay0] using h) a)
  | .tuple ds, _, h, .tup q z a => .tup (tupSq q) (RpAll.dp ds _ (by simpa [PyData.canLay0] using h) a)
  | .dict _, _, h, _ => by simp [PyData.canLay0] at h
theorem RpAll.dp : ∀ (ds : List PyData) (vs : List V), PyData.canLayAll0 ds = true → RpAll K H vs ds → DpAll K H vs ds
  | [], _, _, .nil => .nil
  | d :: ds, _, h, .cons r a => by
    have h' : d.canLay0 = true ∧ PyData.canLayAll0 ds = true := by simpa [PyData.canLayAll0] using h
    exact .cons (Rp.dp d _ h'.1 r) (RpAll.dp ds _ h'.2 a)
end
theorem RpV.dp {v : V} {d : D} (r : RpV K Z H v d) (e : Same Z H) (h : SeqAt.shaped d = true) : Dp K H v d := Rp.dp d v (SeqAt.canLay_of_shaped h) (r.rp e)
theorem RpV.dpU {v : V} {d : D} (r : RpV K Z H v d) (e : Same Z H) (h : SeqAt.shaped (unlit d) = true) : Dp K H v (unlit d) := by
  revert h
  unfold unlit
  split
  · rename_i xs
    intro h
    obtain ⟨p, ns, rfl, rfl, h1, h2⟩ := r.lit e
    exact .lst h1 (dpInts ns)
  · intro h
    exact r.dp e h
where dpInts : ∀ ns : List Int, DpAll K H (ns.map V.int) (ns.map PyData.int)
  | [] => .nil
  | n :: ns => .cons (.int n) (dpInts ns)
theorem fop_eq (hu : X.A.units + 64 < cLine) : OpR X (compareOp .Eq) (rF2 X.K cEq) := by
  intro pins s σ H x y v u Q I rx ry ⟨Z, d, e, Qf, hz, hd, he, g, q⟩
  rcases g with ⟨z, z', rfl, rfl, g⟩ | ⟨g1, g2, g⟩
  · cases hd.str; cases he.str
    refine op_eq pins s σ H _ _ v u Q I rx ry ⟨rfl, ?_⟩
    rw [show decide (V.str z = V.str z') = decide (z = z') by simp]
    exact q _ H Z _ (.d hz (.bl _)) g
  exact op_eqD hu pins s σ H x y v u Q I rx ry ⟨_, _, hd.dpU hz g1, he.dpU hz g2, g1, g2, q _ H Z _ (.d hz (.bl _)) g⟩
theorem fop_ne (hu : X.A.units + 64 < cLine) : OpR X (compareOp .NotEq) (rF2 X.K cNe) := by
  intro pins s σ H x y v u Q I rx ry ⟨Z, d, e, Qf, hz, hd, he, g, q⟩
  rcases g with ⟨z, z', rfl, rfl, g⟩ | ⟨g1, g2, g⟩
  · cases hd.str; cases he.str
    refine op_ne pins s σ H _ _ v u Q I rx ry ⟨rfl, ?_⟩
    rw [show decide (V.str z = V.str z') = decide (z = z') by simp]
    exact q _ H Z _ (.d hz (.bl _)) g
  exact op_neD hu pins s σ H x y v u Q I rx ry ⟨_, _, hd.dpU hz g1, he.dpU hz g2, g1, g2, q _ H Z _ (.d hz (.bl _)) g⟩
theorem intsOf_eq : ∀ {xs : List D} {ns : List Int}, intsOf xs = some ns → xs = ns.map PyData.int
  | [], ns, h => by cases h; rfl
  | x :: xs, ns, h => by
    cases x with
    | int i =>
      unfold intsOf at h
      cases e : intsOf xs with
      | none => rw [e] at h; cases h
      | some ms =>
        rw [e] at h
        cases h
        rw [intsOf_eq e]; rfl
    | _ => unfold intsOf at h; cases h
theorem intsOf_map : ∀ ns : List Int, intsOf (ns.map PyData.int) = some ns
  | [] => rfl
  | n :: ns => by show (intsOf (ns.map PyData.int)).map (n :: ·) = _; rw [intsOf_map ns]; rfl
theorem boolsOf_eq : ∀ {xs : List D} {ns : List Bool}, boolsOf xs = some ns → xs = ns.map PyData.bool
  | [], ns, h => by cases h; rfl
  | x :: xs, ns, h => by
    cases x with
    | bool i =>
      unfold boolsOf at h
      cases e : boolsOf xs with
      | none => rw [e] at h; cases h
      | some ms =>
        rw [e] at h
        cases h
        rw [boolsOf_eq e]; rfl
    | _ => unfold boolsOf at h; cases h
theorem boolsOf_map : ∀ ns : List Bool, boolsOf (ns.map PyData.bool) = some ns
  | [] => rfl
  | n :: ns => by show (boolsOf (ns.map PyData.bool)).map (n :: ·) = _; rw [boolsOf_map ns]; rfl
theorem fop_lt (hu : X.A.units < cLine) : OpR X (compareOp .Lt) (rF2 X.K cLt) := by
  intro pins s σ H x y v u Q I rx ry ⟨Z, d, e, Qf, hz, hd, he, g, q⟩
  unfold cLt at g
  split at g
  · cases hd.int; cases he.int
    exact op_lt pins s σ H _ _ v u Q I rx ry ⟨_, _, rfl, rfl, q _ H Z _ (.d hz (.bl _)) g⟩
  · split at g
    · rename_i ns ms e1 e2
      obtain ⟨p, vs, rfl, h1, h2, h3⟩ := hd.tuple hz
      obtain ⟨p', vs', rfl, h1', h2', h3'⟩ := he.tuple hz
      rw [intsOf_eq e1] at h3
      rw [intsOf_eq e2] at h3'
      rw [h3.ints] at h1
      rw [h3'.ints] at h1'
      exact op_ltT hu pins s σ H _ _ v u Q I rx ry ⟨p, p', ns, ms, rfl, rfl, h1, h1', q _ H Z _ (.d hz (.bl _)) g⟩
    · exact g.elim
  · exact g.elim
theorem fop_le : OpR X (compareOp .LtE) (rF2 X.K cLe) := by
  intro pins s σ H x y v u Q I rx ry ⟨Z, d, e, Qf, hz, hd, he, g, q⟩
  unfold cLe at g
  split at g
  · cases hd.int; cases he.int
    exact op_le pins s σ H _ _ v u Q I rx ry ⟨_, _, rfl, rfl, q _ H Z _ (.d hz (.bl _)) g⟩
  · exact g.elim
theorem fop_gt : OpR X (compareOp .Gt) (rF2 X.K cGt) := by
  intro pins s σ H x y v u Q I rx ry ⟨Z, d, e, Qf, hz, hd, he, g, q⟩
  unfold cGt at g
  split at g
  · cases hd.int; cases he.int
    exact op_gt pins s σ H _ _ v u Q I rx ry ⟨_, _, rfl, rfl, q _ H Z _ (.d hz (.bl _)) g⟩
  · exact g.elim
theorem fop_ge : OpR X (compareOp .GtE) (rF2 X.K cGe) := by
  intro pins s σ H x y v u Q I rx ry ⟨Z, d, e, Qf, hz, hd, he, g, q⟩
  unfold cGe at g
  split at g
  · cases hd.int; cases he.int
    exact op_ge pins s σ H _ _ v u Q I rx ry ⟨_, _, rfl, rfl, q _ H Z _ (.d hz (.bl _)) g⟩
  · exact g.elim
theorem fop_in (hu : X.A.units + 65 < cLine) : OpR X (compareOp .In) (rF2 X.K cIn) := by
  intro pins s σ H x y v u Q I rx ry ⟨Z, d, e, Qf, hz, hd, he, g, q⟩
  unfold cIn at g
  split at g
  · exact op_inD hu pins s σ H _ _ v u Q I rx ry ⟨d, _, hd.dp hz g.1, he.dp hz g.2.1, g.1, g.2.1, q _ H Z _ (.d hz (.bl _)) g.2.2⟩
  · obtain ⟨as, r1⟩ := Dp.reads I d x v (hd.dp hz g.1) rx
    obtain ⟨bs, r2⟩ := Dp.reads I _ y u (he.dp hz g.2.1) ry
    exact SeqAt.in_tuple_reads r2 r1 (by have := SeqAt.canLay_of_shaped g.2.1; simpa [PyData.canLay0] using this) (SeqAt.canLay_of_shaped g.1) (room_in_shaped g.1 hu) ⟨.bl _, H, I, rfl, q _ H Z _ (.d hz (.bl _)) g.2.2⟩
  · exact g.elim
theorem fop_notIn (hu : X.A.units + 65 < cLine) : OpR X (compareOp .NotIn) (rF2 X.K cNotIn) := by
  intro pins s σ H x y v u Q I rx ry ⟨Z, d, e, Qf, hz, hd, he, g, q⟩
  unfold cNotIn at g
  split at g
  · exact op_notInD hu pins s σ H _ _ v u Q I rx ry ⟨d, _, hd.dp hz g.1, he.dp hz g.2.1, g.1, g.2.1, q _ H Z _ (.d hz (.bl _)) g.2.2⟩
  · obtain ⟨as, r1⟩ := Dp.reads I d x v (hd.dp hz g.1) rx
    obtain ⟨bs, r2⟩ := Dp.reads I _ y u (he.dp hz g.2.1) ry
    exact SeqAt.notIn_tuple_reads r2 r1 (by have := SeqAt.canLay_of_shaped g.2.1; simpa [PyData.canLay0] using this) (SeqAt.canLay_of_shaped g.1) (room_in_shaped g.1 hu) ⟨.bl _, H, I, rfl, q _ H Z _ (.d hz (.bl _)) g.2.2⟩
  · exact g.elim
theorem rp_none {v : V} {d : D} (r : Rp K H v d) : decide (v = .non) = isNone d := by cases r <;> rfl
theorem fop_is : OpR X (compareOp .Is) (rF2 X.K cIs) := by
  intro pins s σ H x y v u Q I rx ry ⟨Z, d, e, Qf, hz, hd, he, g, q⟩
  unfold cIs at g
  split at g
  · cases he.non
    refine op_isN pins s σ H _ _ v u Q I rx ry ⟨rfl, ?_⟩
    rw [rp_none (hd.rp hz)]
    exact q _ H Z _ (.d hz (.bl _)) g
  · cases hd.bool; cases he.bool
    exact op_is_bl pins s σ H _ _ v u Q I rx ry ⟨_, _, rfl, rfl, q _ H Z _ (.d hz (.bl _)) g⟩
  · exact g.elim
theorem fop_isNot : OpR X (compareOp .IsNot) (rF2 X.K cIsNot) := by
  intro pins s σ H x y v u Q I rx ry ⟨Z, d, e, Qf, hz, hd, he, g, q⟩
  unfold cIsNot at g
  split at g
  · cases he.non
    refine op_notN pins s σ H _ _ v u Q I rx ry ⟨rfl, ?_⟩
    rw [rp_none (hd.rp hz)]
    exact q _ H Z _ (.d hz (.bl _)) g
  · cases hd.bool; cases he.bool
    exact op_isnot_bl pins s σ H _ _ v u Q I rx ry ⟨_, _, rfl, rfl, q _ H Z _ (.d hz (.bl _)) g⟩
  · exact g.elim

/-! ### places -/
theorem RpAll.atI {vs : List V} {ds : List D} {i : Int} {d : D} (r : RpAll K Z vs ds) (e : L2.atI ds i = some d) : ∃ v, L2.atI vs i = some v ∧ Rp K Z v d := by
  unfold L2.atI at e ⊢
  rw [r.length]
  cases h : ixN ds.length i with
  | none => rw [h] at e; cases e
  | some j => rw [h] at e; exact r.get e
theorem fix_d : IxR X (rF2 X.K ixD) := by
  intro value slice pins s σ H x y v u Q I rx ry ⟨Z, d, e, Qf, hz, hd, he, g, q⟩ hpl
  unfold ixD at g
  split at g
  · split at g
    · obtain ⟨p, vs, rfl, h1, h2, h3⟩ := hd.list hz
      cases he.int
      obtain ⟨w, hw, rw'⟩ := h3.atI (by assumption)
      exact ix_list value slice pins s σ H _ _ v u Q I rx ry ⟨p, vs, _, w, rfl, rfl, .inl h1, hw, q _ H Z _ (.d hz rw') g⟩ hpl
    · exact g.elim
  · split at g
    · obtain ⟨p, vs, rfl, h1, h2, h3⟩ := hd.tuple hz
      cases he.int
      obtain ⟨w, hw, rw'⟩ := h3.atI (by assumption)
      exact ix_tup value slice pins s σ H _ _ v u Q I rx ry ⟨p, vs, _, w, rfl, rfl, h1, hw, q _ H Z _ (.d hz rw') g⟩ hpl
    · exact g.elim
  · obtain ⟨g1, g2⟩ := g
    split at g2
    · cases hd.str
      cases he.int
      exact ix_str value slice pins s σ H _ _ v u Q I rx ry ⟨_, _, _, rfl, rfl, g1, by assumption, q _ H Z _ (.d hz (.str _)) g2⟩ hpl
    · exact g2.elim
  · split at g
    · obtain ⟨p, ns, rfl, rfl, h1, h2⟩ := hd.lit hz
      cases he.int
      rename_i x heq
      obtain ⟨w, hw, rz⟩ := RpAll.atI (RpAll.of_ints (K := X.K) (H := Z) ns) heq
      exact ix_list value slice pins s σ H _ _ v u Q I rx ry ⟨p, _, _, w, rfl, rfl, h1, hw, q _ H Z _ (.d hz rz) g⟩ hpl
    · exact g.elim
  · exact g.elim
end
end Hs
/-! HsG: slices, built-ins by name, isinstance, methods of lists, stores at places, errors. -/
namespace Hs
open PySem PySem.Spec PyProof.Rows L2
/-! ### max, min of a tuple of whole numbers -/
section
variable {prog : Program} {w : World} {A : Around} {E : Value → Shared → Prop} {s : Shared} {l : Addr}
theorem iter_intTuple {xs : Array (Int × Tok)} {Q : Value → Shared → Prop} (hl : s.heap.IsTuple l (intItems xs))
    (h : ∀ s₂ : Shared, s₂ = { s with heap := s.heap.push { cls := .type "tuple_iterator", data := .fields #[.ref l, .int 0 0] } } →
      (s₂.heap.IsTupleIter s.heap.objs.size l 0 ∧ s₂.heap.IsTuple l (intItems xs)) → (∀ b ∈ [s.heap.objs.size, l], b < s₂.heap.objs.size) → l ≠ s.heap.objs.size → Q (.ref s.heap.objs.size) s₂) :
    wpAny (model prog w) A (pyIter (.ref l)) Q E s := by
  have hlt : l < s.heap.objs.size := by obtain ⟨_, e, _⟩ := hl; exact Heap.lt_size e
  refine wpAny_pyIter_tuple hl (h _ rfl ⟨⟨_, Heap.get?_push_size _ rfl, rfl, rfl⟩, hl.push _⟩ (fun b hb => ?_) (Nat.ne_of_lt hlt))
  show b < (s.heap.push _).objs.size
  rw [Heap.size_push]
  rcases List.mem_cons.mp hb with rfl | hb
  · exact Nat.lt_succ_self _
  · rcases List.mem_cons.mp hb with rfl | hb
    · exact Nat.lt_succ_of_lt hlt
    · cases hb
theorem old_keptT {h' : Heap} (hk : ∀ b o, b ∉ [s.heap.objs.size] → (s.heap.push { cls := .type "tuple_iterator", data := .fields #[.ref l, .int 0 0] }).get? b = some o → h'.get? b = some o) :
    ∀ b o, s.heap.get? b = some o → h'.get? b = some o := fun b o e => by
  refine hk b o (fun hm => ?_) (Heap.get?_push_of_some _ e)
  rcases List.mem_cons.mp hm with e1 | hm
  · exact absurd (e1 ▸ Heap.lt_size e) (Nat.lt_irrefl _)
  · cases hm
theorem max_intTuple {xs : Array (Int × Tok)} {Q : Value → Shared → Prop} (hh : A.handled = none) (hl : s.heap.IsTuple l (intItems xs)) (hne : 0 < xs.size)
    (h : ∀ v h' tk, (intItems xs)[argBest (fun i j => decide (numAt xs i > numAt xs j)) (xs.size - 1)]? = some v → (∀ b o, s.heap.get? b = some o → h'.get? b = some o) → Q v { s with heap := h', toks := tk }) :
    wpAny (model prog w) A (call (.builtin "max") [.ref l]) Q E s := by
  refine call_max_walk (iter_intTuple hl fun s₂ e st hfp hlI => ?_)
  subst e
  refine ⟨_, _, _, _, _, _, _, rfl, PySem.Walks.tuple (A := A.in1) hh _ l hlI (intItems xs), st, hfp, by simpa [intItems] using hne, CmpOf.ints_gt (numAt xs) (fun _ _ => intItems_at), fun v h' tk hP hk => ?_⟩
  exact h v h' tk (by simpa [intItems] using hP) (old_keptT hk)
theorem max_rawT {its : List Value} {ns : List Int} {Q : Value → Shared → Prop} (hh : A.handled = none) (hl : s.heap.IsTuple l its.toArray) (hi : IntsAre its ns) (hne : 0 < ns.length)
    (h : ∀ h' tk M t', (∀ b o, s.heap.get? b = some o → h'.get? b = some o) → M ∈ ns → (∀ a, a ∈ ns → a ≤ M) → Q (.int M t') { s with heap := h', toks := tk }) : wpAny (model prog w) A (call (.builtin "max") [.ref l]) Q E s := by
  obtain ⟨xs, e⟩ := hi.allInts.items
  have hn : numsOf (intItems xs).toList = ns := by rw [← e]; exact hi.numsOf
  rw [nums_intItems] at hn
  subst hn
  rw [e] at hl
  have hsz : 0 < xs.size := by simpa using hne
  refine max_intTuple hh hl hsz fun v h' tk hv hk => ?_
  obtain ⟨t, rfl⟩ := intItems_at hv
  obtain ⟨h1, h2⟩ := argBest_gt (numAt xs) (xs.size - 1)
  refine h h' tk _ t hk ?_ fun a ha => ?_
  · rw [numAt_eq]; exact PySem.getD_mem (by rw [List.length_map, Array.length_toList]; omega)
  · obtain ⟨j, hj, rfl⟩ := mem_getD ha
    rw [List.length_map, Array.length_toList] at hj
    rw [← numAt_eq]; exact h2 j (by omega)
theorem min_intTuple {xs : Array (Int × Tok)} {Q : Value → Shared → Prop} (hh : A.handled = none) (hl : s.heap.IsTuple l (intItems xs)) (hne : 0 < xs.size)
    (h : ∀ v h' tk, (intItems xs)[argBest (fun i j => decide (numAt xs i < numAt xs j)) (xs.size - 1)]? = some v → (∀ b o, s.heap.get? b = some o → h'.get? b = some o) → Q v { s with heap := h', toks := tk }) :
    wpAny (model prog w) A (call (.builtin "min") [.ref l]) Q E s := by
  refine call_min_walk (iter_intTuple hl fun s₂ e st hfp hlI => ?_)
  subst e
  refine ⟨_, _, _, _, _, _, _, rfl, PySem.Walks.tuple (A := A.in1) hh _ l hlI (intItems xs), st, hfp, by simpa [intItems] using hne, CmpOf.ints_lt (numAt xs) (fun _ _ => intItems_at), fun v h' tk hP hk => ?_⟩
  exact h v h' tk (by simpa [intItems] using hP) (old_keptT hk)
theorem min_rawT {its : List Value} {ns : List Int} {Q : Value → Shared → Prop} (hh : A.handled = none) (hl : s.heap.IsTuple l its.toArray) (hi : IntsAre its ns) (hne : 0 < ns.length)
    (h : ∀ h' tk M t', (∀ b o, s.heap.get? b = some o → h'.get? b = some o) → M ∈ ns → (∀ a, a ∈ ns → M ≤ a) → Q (.int M t') { s with heap := h', toks := tk }) : wpAny (model prog w) A (call (.builtin "min") [.ref l]) Q E s := by
  obtain ⟨xs, e⟩ := hi.allInts.items
  have hn : numsOf (intItems xs).toList = ns := by rw [← e]; exact hi.numsOf
  rw [nums_intItems] at hn
  subst hn
  rw [e] at hl
  have hsz : 0 < xs.size := by simpa using hne
  refine min_intTuple hh hl hsz fun v h' tk hv hk => ?_
  obtain ⟨t, rfl⟩ := intItems_at hv
  obtain ⟨h1, h2⟩ := argBest_lt (numAt xs) (xs.size - 1)
  refine h h' tk _ t hk ?_ fun a ha => ?_
  · rw [numAt_eq]; exact PySem.getD_mem (by rw [List.length_map, Array.length_toList]; omega)
  · obtain ⟨j, hj, rfl⟩ := mem_getD ha
    rw [List.length_map, Array.length_toList] at hj
    rw [← numAt_eq]; exact h2 j (by omega)
end
def rMaxT (K : PySem.W.Frag) : List V → Hp → VK → Prop := fun vs H Q => ∃ (a : Addr) (ns : List Int), vs = [V.ref a] ∧ SqT K H a (ns.map V.int) ∧ 0 < ns.length ∧ ∀ m, m ∈ ns → (∀ y, y ∈ ns → y ≤ m) → Q (.int m) H
theorem cr_maxT {X : Cx} (hc : X.calm = true) : CallR X (.builtin "max") (rMaxT X.K) := by
  intro pins s σ H vs us Q I r h
  obtain ⟨a, ns, rfl, hs, hne, q⟩ := h
  obtain ⟨its, rv, hl, _⟩ := I.tuple hs
  rw [Vals.ref1 r]
  exact max_rawT (I.ok.hd hc) hl rv.ints hne fun h' tk m t' hk h1 h2 => ⟨.int _, H, I.kept hk, ⟨_, rfl⟩, q m h1 h2⟩
def rMinT (K : PySem.W.Frag) : List V → Hp → VK → Prop := fun vs H Q => ∃ (a : Addr) (ns : List Int), vs = [V.ref a] ∧ SqT K H a (ns.map V.int) ∧ 0 < ns.length ∧ ∀ m, m ∈ ns → (∀ y, y ∈ ns → m ≤ y) → Q (.int m) H
theorem cr_minT {X : Cx} (hc : X.calm = true) : CallR X (.builtin "min") (rMinT X.K) := by
  intro pins s σ H vs us Q I r h
  obtain ⟨a, ns, rfl, hs, hne, q⟩ := h
  obtain ⟨its, rv, hl, _⟩ := I.tuple hs
  rw [Vals.ref1 r]
  exact min_rawT (I.ok.hd hc) hl rv.ints hne fun h' tk m t' hk h1 h2 => ⟨.int _, H, I.kept hk, ⟨_, rfl⟩, q m h1 h2⟩
section
variable {X : Cx} {L : Lv} {e a b c : Expr} {es : List Expr} {fa fb fc : FE} {ft fu : FT} {fr : FA} {pos p : Pos}
variable {K : PySem.W.Frag}

/-! ### slices -/
def liftO (X : Cx) (L : Lv) (fo : FO) : TO := fun σ H Q => ∃ Z Y s Xf Qf, Rel X.K Z Y H σ s ∧ L.keeps σ ∧ XOk X L Z Y Xf ∧ fo Xf s Qf ∧ ∀ o H' Z' s', Same Z Z' → Rel X.K Z' Y H' σ s' → Qf o s' → Q o H'
def PFO (X : Cx) (L : Lv) (e : Option Expr) (fo : FO) : Prop := PO X e (liftO X L fo)
theorem PO_imp {eo : Option Expr} {t t' : TO} (h : PO X eo t) (hi : ∀ σ H Q, t' σ H Q → t σ H Q) : PO X eo t' := ⟨fun pins s σ H Q I q => h.run pins s σ H Q I (hi σ H Q q)⟩
theorem pfo_none : PFO X L none fNoPart := PO_imp po_none fun σ H Q ⟨Z, Y, s, Xf, Qf, r, k, xo, h, q⟩ => q none H Z s (Same.refl _) r h
theorem pfo_some (h : PF X L e fa) : PFO X L (some e) (fPart fa) := PO_imp (po_some h) fun σ H Q ⟨Z, Y, s, Xf, Qf, r, k, xo, h, q⟩ => by
  refine ⟨Z, Y, s, Xf, _, r, k, xo, h, fun v H1 Z1 r1 s1 hz rx h1 => ?_⟩
  split at h1
  · exact ⟨_, rx.vi, q _ H1 Z1 s1 hz rx.rel0 h1⟩
  · exact h1.elim
def rFs (K : PySem.W.Frag) (g : D → Option Int → Option Int → (R → Prop) → Prop) : V → Option Int → Option Int → Hp → VK → Prop := fun x lo hi H Q => ∃ Z d Qf, Same Z H ∧ RpV K Z H x d ∧ g d lo hi Qf ∧ ∀ u H' Z' r, NewR K Z H Z' H' u r → Qf r → Q u H'
theorem fSl_ok {g : D → Option Int → Option Int → (R → Prop) → Prop} {fl fh : FO} {σ : St} {H : Hp} {Q : VK} (h : liftE X L (fSl g fa fl fh) σ H Q) : tSl (rFs X.K g) (liftE X L fa) (liftO X L fl) (liftO X L fh) σ H Q := by
  obtain ⟨Z, Y, s, Xf, Qf, r, k, xo, h, q⟩ := h
  refine ⟨Z, Y, s, Xf, _, r, k, xo, h, fun v H1 Z1 r1 s1 hz rx h1 => ?_⟩
  obtain ⟨Y', hy, rl, bk, fw⟩ := rx.frame
  refine ⟨Z1, Y', s1, Xf, _, rl, k, (xo.z hz).mono (Same.refl _) bk, h1, fun lo H2 Z2 s2 hz2 r2 h2 => ?_⟩
  refine ⟨Z2, Y', s2, Xf, _, r2, k, (xo.z (hz.trans hz2)).mono (Same.refl _) fun Z' H' σ' s' hz' => bk Z' H' σ' s' (hz2.trans hz'), h2, fun hi H3 Z3 s3 hz3 r3 h3 => ?_⟩
  have rx3 := fw Z3 H3 s3 [] [] (hz2.trans hz3) (.nil r3)
  obtain ⟨d, e1, h4⟩ := look_ok h3
  obtain ⟨v', ev, rv⟩ := rx3.look (k := 0) rfl e1
  cases ev
  exact ⟨Z3, d, _, rx3.rel0.zh, rv, h4, fun u H' Z' r n hq => q u H' Z' r s3 (((hz.trans hz2).trans hz3).trans n.hz) (rx3.rel0.new n) hq⟩
theorem RpAll.cut {Z : Hp} {vs : List V} {ds : List D} (r : RpAll K Z vs ds) (lo hi : Option Int) : RpAll K Z (cutV vs lo hi) (slD.cutL ds lo hi) := by
  unfold cutV slD.cutL
  rw [r.length]
  exact (r.drop _).take _
theorem fsl : SlR X (rFs X.K slD) := by
  intro pins s σ H x v vl vu lo hi sl Q I rx hs pl pu ⟨Z, d, Qf, hz, hd, g, q⟩
  unfold slD at g
  split at g
  · obtain ⟨p, vs, rfl, h1, h2, h3⟩ := hd.list hz
    exact sl_list pins s σ H _ v vl vu lo hi sl Q I rx hs pl pu ⟨p, vs, rfl, .inl h1, fun n hn => q _ _ Z _ (.lst hz hn (Nat.le_trans (cutV_length vs lo hi) h2) (h3.cut lo hi)) g⟩
  · obtain ⟨p, vs, rfl, h1, h2, h3⟩ := hd.tuple hz
    refine sl_tupA pins s σ H _ v vl vu lo hi sl Q I rx hs pl pu ⟨p, vs, rfl, h1, fun hw => ?_, fun hw n hn => q _ _ _ _ (.tup hz hn (Nat.le_trans (cutV_length vs lo hi) h2) (h3.cut lo hi)) g⟩
    rename_i xs0
    have e : slD.cutL xs0 lo hi = xs0 := by
      unfold slD.cutL
      rw [← h3.length, hw.1, hw.2, h3.length, Nat.sub_zero, List.drop_zero, List.take_length]
    rw [e] at g
    exact q _ H Z _ (.d hz (fop_add.RpV.tupZ hd)) g
  · exact g.elim
theorem pf_sl {lo hi : Option Expr} {fl fh : FO} {p2 : Pos} (he : PF X L e fa) (hl : PFO X L lo fl) (hh : PFO X L hi fh) : PF X L (.Subscript e (.Slice lo hi none p2) pos) (fSl slD fa fl fh) := PE_imp (pe_slice fsl he hl hh) fun _ _ _ => fSl_ok

/-! ### built-ins by name -/
inductive RpVs (K : PySem.W.Frag) (Z H : Hp) : List V → List D → Prop
  | nil : RpVs K Z H [] []
  | cons {v : V} {vs : List V} {d : D} {ds : List D} : RpV K Z H v d → RpVs K Z H vs ds → RpVs K Z H (v :: vs) (d :: ds)
def rFN (K : PySem.W.Frag) (g : VN) : List V → Hp → VK → Prop := fun vs H Q => ∃ Z ds Qf, Same Z H ∧ RpVs K Z H vs ds ∧ g ds Qf ∧ ∀ u H' Z' r, NewR K Z H Z' H' u r → Qf r → Q u H'
theorem lookAll_ok {Z H : Hp} {s : S} : ∀ {rs : List R} {vs : List V} {k : List D → Prop}, vs.length = rs.length → (∀ (j : Nat) q d, rs[j]? = some q → viewR s q = some d → ∃ v, vs[j]? = some v ∧ RpV K Z H v d) → fBlt.lookAll s rs k → ∃ ds, RpVs K Z H vs ds ∧ k ds
  | [], [], k, hl, hv, h => ⟨[], .nil, h⟩
  | [], _ :: _, k, hl, hv, h => by cases hl
  | r :: rs, [], k, hl, hv, h => by cases hl
  | r :: rs, v :: vs, k, hl, hv, h => by
    obtain ⟨d, e, h2⟩ := look_ok h
    obtain ⟨v', ev, rv⟩ := hv 0 r d rfl e
    cases ev
    obtain ⟨ds, rr, h3⟩ := lookAll_ok (by simpa using hl) (fun j q d h1 h2 => hv (j + 1) q d h1 h2) h2
    exact ⟨d :: ds, .cons rv rr, h3⟩
theorem fBlt_ok {g : VN} {n : Nat} {σ : St} {H : Hp} {Q : VK} (h : liftE X L (fBlt g fr) σ H Q) : tCB (rFN X.K g) (liftA X L n fr) σ H Q := by
  obtain ⟨Z, Y, s, Xf, Qf, r, k, xo, h, q⟩ := h
  refine ⟨Z, Y, s, Xf, _, r, k, xo, h, fun vs H1 Z1 rs s1 hz rx hn h1 => ?_⟩
  obtain ⟨ds, rr, h2⟩ := lookAll_ok rx.l2 (fun j q d e1 e2 => rx.look e1 e2) h1
  exact ⟨Z1, ds, _, rx.rel0.zh, rr, h2, fun u H' Z' r n hq => q u H' Z' r s1 (hz.trans n.hz) (rx.rel0.new n) hq⟩
variable {x : Str} {id T : String}
theorem pf_blt {g : VN} (hc : CallR X (.builtin id) (rFN X.K g)) (hm : X.mg x = none) (hv : bootBuiltins x = some (.builtin id)) (ha : PFA X L (e :: es) fr) (hg : Gl X x := by rfl) (hn : x ≠ "__name__" := by decide) (hdb : (x == ("__debug__" : Str)) = false := by decide)
    (he : starEach (e :: es) X.env = (false, eval e X.env) :: starEach es X.env := by rfl) (hpl : (backTo pos (starEach es X.env)).any (·.1) = false := by rfl) : PF X L (.Call (.Name x p) (e :: es) [] pos) (fBlt g fr) := PE_imp (pe_callB hc hg hm hv ha hn hdb he hpl) fun _ _ _ => fBlt_ok
theorem pf_bty {g : VN} (hc : CallR X (.type T) (rFN X.K g)) (hm : X.mg x = none) (hv : bootBuiltins x = some (.type T)) (ha : PFA X L (e :: es) fr) (hg : Gl X x := by rfl) (hn : x ≠ "__name__" := by decide) (hdb : (x == ("__debug__" : Str)) = false := by decide)
    (he : starEach (e :: es) X.env = (false, eval e X.env) :: starEach es X.env := by rfl) (hpl : (backTo pos (starEach es X.env)).any (·.1) = false := by rfl) : PF X L (.Call (.Name x p) (e :: es) [] pos) (fBlt g fr) := PE_imp (pe_callTy hc hg hm hv ha hn hdb he hpl) fun _ _ _ => fBlt_ok
theorem RpVs.one {Z H : Hp} {vs : List V} {d : D} (r : RpVs K Z H vs [d]) : ∃ v, vs = [v] ∧ RpV K Z H v d := by
  cases r with
  | cons h r => cases r; exact ⟨_, rfl, h⟩
theorem RpVs.two {Z H : Hp} {vs : List V} {d e : D} (r : RpVs K Z H vs [d, e]) : ∃ v w, vs = [v, w] ∧ RpV K Z H v d ∧ RpV K Z H w e := by
  cases r with
  | cons h r =>
    cases r with
    | cons h2 r => cases r; exact ⟨_, _, rfl, h, h2⟩
theorem fb_len : CallR X (.builtin "len") (rFN X.K bLen) := by
  intro pins s σ H vs us Q I rv ⟨Z, ds, Qf, hz, rr, g, q⟩
  unfold bLen at g
  split at g
  · obtain ⟨v, rfl, r1⟩ := rr.one
    obtain ⟨p, vs, rfl, h1, h2, h3⟩ := r1.list hz
    exact call_len pins s σ H _ us Q I rv ⟨_, vs.length, rfl, .inl ⟨vs, .inl h1, rfl⟩, by rw [h3.length]; exact q _ H Z _ (.d hz (.int _)) g⟩
  · obtain ⟨v, rfl, r1⟩ := rr.one
    obtain ⟨p, vs, rfl, h1, h2, h3⟩ := r1.tuple hz
    exact call_len pins s σ H _ us Q I rv ⟨_, vs.length, rfl, .inr ⟨vs, h1, rfl⟩, by rw [h3.length]; exact q _ H Z _ (.d hz (.int _)) g⟩
  · obtain ⟨v, rfl, r1⟩ := rr.one
    cases r1.str
    exact call_len pins s σ H _ us Q I rv ⟨_, _, rfl, ⟨g.1, rfl⟩, q _ H Z _ (.d hz (.int _)) g.2⟩
  · obtain ⟨v, rfl, r1⟩ := rr.one
    obtain ⟨p, ns, rfl, rfl, h1, h2⟩ := r1.lit hz
    exact call_len pins s σ H _ us Q I rv ⟨_, _, rfl, .inl ⟨_, h1, rfl⟩, by rw [List.length_map]; rw [List.length_map] at g; exact q _ H Z _ (.d hz (.int _)) g⟩
  · exact g.elim
theorem fb_abs : CallR X (.builtin "abs") (rFN X.K bAbs) := by
  intro pins s σ H vs us Q I rv ⟨Z, ds, Qf, hz, rr, g, q⟩
  unfold bAbs at g
  split at g
  · obtain ⟨v, rfl, r1⟩ := rr.one
    cases r1.int
    exact call_abs pins s σ H _ us Q I rv ⟨_, rfl, q _ H Z _ (.d hz (.int _)) g⟩
  · exact g.elim
theorem fb_max2 (hc : X.calm = true) : CallR X (.builtin "max") (rFN X.K bMax2) := by
  intro pins s σ H vs us Q I rv ⟨Z, ds, Qf, hz, rr, g, q⟩
  unfold bMax2 at g
  split at g
  · obtain ⟨v, w, rfl, r1, r2⟩ := rr.two
    cases r1.int; cases r2.int
    exact call_max2 hc pins s σ H _ us Q I rv ⟨_, _, rfl, q _ H Z _ (.d hz (.int _)) g⟩
  · exact g.elim
theorem fb_min2 (hc : X.calm = true) : CallR X (.builtin "min") (rFN X.K bMin2) := by
  intro pins s σ H vs us Q I rv ⟨Z, ds, Qf, hz, rr, g, q⟩
  unfold bMin2 at g
  split at g
  · obtain ⟨v, w, rfl, r1, r2⟩ := rr.two
    cases r1.int; cases r2.int
    exact call_min2 hc pins s σ H _ us Q I rv ⟨_, _, rfl, q _ H Z _ (.d hz (.int _)) g⟩
  · exact g.elim
theorem fb_int : CallR X (.type "int") (rFN X.K bInt) := by
  intro pins s σ H vs us Q I rv ⟨Z, ds, Qf, hz, rr, g, q⟩
  unfold bInt at g
  split at g
  · obtain ⟨v, rfl, r1⟩ := rr.one
    cases r1.int
    exact call_int1 pins s σ H _ us Q I rv (.inl ⟨_, rfl, q _ H Z _ (.d hz (.int _)) g⟩)
  · obtain ⟨v, rfl, r1⟩ := rr.one
    cases r1.bool
    exact call_int1 pins s σ H _ us Q I rv (.inr ⟨_, rfl, q _ H Z _ (.d hz (.int _)) g⟩)
  · exact g.elim
theorem fb_str : CallR X (.type "str") (rFN X.K bStr) := by
  intro pins s σ H vs us Q I rv ⟨Z, ds, Qf, hz, rr, g, q⟩
  unfold bStr at g
  split at g
  · obtain ⟨v, rfl, r1⟩ := rr.one
    cases r1.int
    exact call_str_int pins s σ H _ us Q I rv ⟨_, rfl, g.1, q _ H Z _ (.d hz (.str _)) g.2⟩
  · exact g.elim
theorem fb_tuple : CallR X (.type "tuple") (rFN X.K bTuple) := by
  intro pins s σ H vs us Q I rv ⟨Z, ds, Qf, hz, rr, g, q⟩
  unfold bTuple at g
  split at g
  · obtain ⟨v, rfl, r1⟩ := rr.one
    obtain ⟨p, vs, rfl, h1, h2, h3⟩ := r1.list hz
    exact call_tuple_of pins s σ H _ us Q I rv ⟨p, vs, rfl, .inl ⟨.inl h1, fun n hn => q _ _ _ _ (.tup hz hn h2 h3) g⟩⟩
  · obtain ⟨v, rfl, r1⟩ := rr.one
    obtain ⟨p, vs, rfl, h1, h2, h3⟩ := r1.tuple hz
    exact call_tuple_of pins s σ H _ us Q I rv ⟨p, vs, rfl, .inr ⟨h1, q _ H Z _ (.d hz (fop_add.RpV.tupZ r1)) g⟩⟩
  · exact g.elim
theorem fb_list : CallR X (.type "list") (rFN X.K bList) := by
  intro pins s σ H vs us Q I rv ⟨Z, ds, Qf, hz, rr, g, q⟩
  unfold bList at g
  split at g
  · obtain ⟨v, rfl, r1⟩ := rr.one
    obtain ⟨p, vs, rfl, h1, h2, h3⟩ := r1.list hz
    exact call_list_of pins s σ H _ us Q I rv ⟨p, vs, rfl, .inl (.inl h1), fun n hn => q _ _ Z _ (.lst hz hn h2 h3) g⟩
  · obtain ⟨v, rfl, r1⟩ := rr.one
    obtain ⟨p, vs, rfl, h1, h2, h3⟩ := r1.tuple hz
    exact call_list_of pins s σ H _ us Q I rv ⟨p, vs, rfl, .inr h1, fun n hn => q _ _ Z _ (.lst hz hn h2 h3) g⟩
  · exact g.elim
theorem fb_all (hc : X.calm = true) : CallR X (.builtin "all") (rFN X.K bAll) := by
  intro pins s σ H vs us Q I rv ⟨Z, ds, Qf, hz, rr, g, q⟩
  unfold bAll at g
  split at g
  · split at g
    · rename_i eb
      obtain ⟨v, rfl, r1⟩ := rr.one
      obtain ⟨p, vs, rfl, h1, h2, h3⟩ := r1.list hz
      rw [boolsOf_eq eb] at h3
      rw [h3.bools] at h1
      exact cr_all hc pins s σ H _ us Q I rv ⟨p, _, rfl, .inl h1, q _ H Z _ (.d hz (.bl _)) g⟩
    · exact g.elim
  · exact g.elim
theorem fb_any (hc : X.calm = true) : CallR X (.builtin "any") (rFN X.K bAny) := by
  intro pins s σ H vs us Q I rv ⟨Z, ds, Qf, hz, rr, g, q⟩
  unfold bAny at g
  split at g
  · split at g
    · rename_i eb
      obtain ⟨v, rfl, r1⟩ := rr.one
      obtain ⟨p, vs, rfl, h1, h2, h3⟩ := r1.list hz
      rw [boolsOf_eq eb] at h3
      rw [h3.bools] at h1
      exact cr_any hc pins s σ H _ us Q I rv ⟨p, _, rfl, .inl h1, q _ H Z _ (.d hz (.bl _)) g⟩
    · exact g.elim
  · exact g.elim
theorem fb_maxL (hc : X.calm = true) : CallR X (.builtin "max") (rFN X.K bMaxL) := by
  intro pins s σ H vs us Q I rv ⟨Z, ds, Qf, hz, rr, g, q⟩
  unfold bMaxL at g
  split at g
  · split at g
    · rename_i eb
      obtain ⟨v, rfl, r1⟩ := rr.one
      obtain ⟨p, vs, rfl, h1, h2, h3⟩ := r1.list hz
      rw [intsOf_eq eb] at h3
      rw [h3.ints] at h1
      exact cr_max hc pins s σ H _ us Q I rv ⟨p, _, rfl, .inl h1, g.1, fun m hm hy => q _ H Z _ (.d hz (.int _)) (g.2 m hm hy)⟩
    · exact g.elim
  · split at g
    · rename_i eb
      obtain ⟨v, rfl, r1⟩ := rr.one
      obtain ⟨p, vs, rfl, h1, h2, h3⟩ := r1.tuple hz
      rw [intsOf_eq eb] at h3
      rw [h3.ints] at h1
      exact cr_maxT hc pins s σ H _ us Q I rv ⟨p, _, rfl, h1, g.1, fun m hm hy => q _ H Z _ (.d hz (.int _)) (g.2 m hm hy)⟩
    · exact g.elim
  · exact g.elim
theorem fb_minL (hc : X.calm = true) : CallR X (.builtin "min") (rFN X.K bMinL) := by
  intro pins s σ H vs us Q I rv ⟨Z, ds, Qf, hz, rr, g, q⟩
  unfold bMinL at g
  split at g
  · split at g
    · rename_i eb
      obtain ⟨v, rfl, r1⟩ := rr.one
      obtain ⟨p, vs, rfl, h1, h2, h3⟩ := r1.list hz
      rw [intsOf_eq eb] at h3
      rw [h3.ints] at h1
      exact cr_min hc pins s σ H _ us Q I rv ⟨p, _, rfl, .inl h1, g.1, fun m hm hy => q _ H Z _ (.d hz (.int _)) (g.2 m hm hy)⟩
    · exact g.elim
  · split at g
    · rename_i eb
      obtain ⟨v, rfl, r1⟩ := rr.one
      obtain ⟨p, vs, rfl, h1, h2, h3⟩ := r1.tuple hz
      rw [intsOf_eq eb] at h3
      rw [h3.ints] at h1
      exact cr_minT hc pins s σ H _ us Q I rv ⟨p, _, rfl, h1, g.1, fun m hm hy => q _ H Z _ (.d hz (.int _)) (g.2 m hm hy)⟩
    · exact g.elim
  · exact g.elim
theorem fb_sum (hc : X.calm = true) : CallR X (.builtin "sum") (rFN X.K bSum) := by
  intro pins s σ H vs us Q I rv ⟨Z, ds, Qf, hz, rr, g, q⟩
  unfold bSum at g
  split at g
  · split at g
    · rename_i eb
      obtain ⟨v, rfl, r1⟩ := rr.one
      obtain ⟨p, vs, rfl, h1, h2, h3⟩ := r1.list hz
      rw [intsOf_eq eb] at h3
      rw [h3.ints] at h1
      exact cr_sum hc pins s σ H _ us Q I rv ⟨p, _, rfl, .inl h1, q _ H Z _ (.d hz (.int _)) g⟩
    · exact g.elim
  · exact g.elim

/-! ### isinstance(x, T), T a built-in class -/
def tyName : D → String
  | .none => "NoneType"
  | .bool _ => "bool"
  | .int _ => "int"
  | .str _ => "str"
  | .list _ => "list"
  | .tuple _ => "tuple"
  | .dict _ => "dict"
theorem tyX_of {H : Hp} {v : V} {d : D} (r : Rp K H v d) (hl : isLit d = false) : TyX K H v (.type (tyName d)) := by
  cases r with
  | lit h z => cases hl
  | exc h => cases hl
  | obj h1 h2 a => cases hl
  | non => exact .base .non
  | bl b => exact .base (.bl b)
  | int i => exact .base (.int i)
  | str x => exact .base (.str x)
  | lst h z a =>
    rcases h with h | ⟨o, h⟩
    · exact .base (.lst h)
    · exact .base (.frz h)
  | tup h z a => exact .base (.tup h)
  | dcK h a =>
    rcases h with h | ⟨o, h⟩
    · exact .base (.dK h)
    · exact .fDict h
  | dcT h a => exact .base (.dT h)
/-- the classes that are asked for -/
inductive AskTy : String → Prop
  | int : AskTy "int" | bool : AskTy "bool" | tuple : AskTy "tuple" | list : AskTy "list" | str : AskTy "str" | dict : AskTy "dict"
def tyB (n T : String) : Bool := n == T || (n == "bool" && T == "int")
theorem kitTab : ∀ n ∈ ["NoneType", "bool", "int", "str", "list", "tuple", "dict"], ∀ T ∈ ["int", "bool", "tuple", "list", "str", "dict"], kitB n T = some (tyB n T) := by decide +kernel
theorem tyName_mem (d : D) : tyName d ∈ ["NoneType", "bool", "int", "str", "list", "tuple", "dict"] := by cases d <;> simp [tyName]
theorem isTy_eq {T : String} (h : AskTy T) (d : D) : isTy T d = tyB (tyName d) T := by cases h <;> cases d <;> rfl
theorem kit_is {T : String} (h : AskTy T) (d : D) : PySem.W.kitOne K (.type (tyName d)) (.type T) = some (isTy T d) := by
  rw [isTy_eq h]
  exact kit_ty (kitTab _ (tyName_mem d) T (by cases h <;> simp))
theorem pf_isinst {T : String} {tx : Str} {p2 : Pos} (hT : AskTy T) (ha : PF X L a fa) (hm : X.mg "isinstance" = none) (hmT : X.mg tx = none) (hbT : bootBuiltins tx = some (.type T)) (hg : Gl X "isinstance" := by rfl) (hgT : Gl X tx := by rfl)
    (hnT : tx ≠ "__name__" := by decide) (hdT : (tx == ("__debug__" : Str)) = false := by decide) (he : starEach [a, .Name tx p2] X.env = (false, eval a X.env) :: starEach [.Name tx p2] X.env := by rfl) (he2 : starEach [.Name tx p2] X.env = (false, eval (.Name tx p2) X.env) :: starEach [] X.env := by rfl)
    (hpl : (backTo pos (starEach [.Name tx p2] X.env)).any (·.1) = false := by rfl) : PF X L (.Call (.Name "isinstance" p) [a, .Name tx p2] [] pos) (fUn (bIs T) fa) :=
  PE_imp (pe_callB call_isi hg hm (by decide +kernel) (pa_cons ha (pa_cons (pe_bltn (v := .ty T) hgT hmT hbT rfl hnT hdT) pa_nil he2) he) (by decide) (by decide) he hpl) fun σ H Q ⟨Z, Y, s, Xf, Qf, r, k, xo, h, q⟩ => by
  refine ⟨Z, Y, s, Xf, _, r, k, xo, h, fun v H1 Z1 r1 s1 hz rx h1 => ?_⟩
  obtain ⟨d, e1, h3⟩ := look_ok h1
  obtain ⟨v', ev, rv⟩ := rx.look (k := 0) rfl e1
  cases ev
  exact ⟨v, .ty T, _, .type T, _, rfl, .ty T, tyX_of (rv.rp rx.rel0.zh) h3.1, kit_is hT d, q _ H1 Z1 _ s1 hz (.d rx.rel0 (.bl _)) h3.2⟩

/-! ### methods of a slot's own list -/
def rLm (K : PySem.W.Frag) (g : LM) : V → List V → Hp → VK → Prop := fun x us H Q => ∃ Z p vs xs ds Qf, x = .ref p ∧ H p = some (.lst vs) ∧ vs.length ≤ sizeLine ∧ RpAll K Z vs xs ∧ Same Z H ∧ RpAll K Z us ds ∧ g xs ds Qf ∧
  ∀ u d vs' xs', Qf d xs' → Rp K Z u d → vs'.length ≤ sizeLine → RpAll K Z vs' xs' → Q u (upd H p (.lst vs'))
theorem onL_ok {i : Nat} {s : S} {k : List D → Prop} (h : onL i s k) : ∃ xs, s.getD i .no = .l xs ∧ k xs := by
  unfold onL at h
  generalize s.getD i .no = w at h
  cases w with
  | l xs => exact ⟨xs, rfl, h⟩
  | _ => exact h.elim
theorem Rel.slotL {Z Y H : Hp} {σ : St} {s : S} (r : Rel K Z Y H σ s) {i : Nat} {xs : List D} (e : s.getD i .no = .l xs) : ∃ p vs, σ.getD i none = some (.ref p) ∧ H p = some (.lst vs) ∧ vs.length ≤ sizeLine ∧ RpAll K Z vs xs := by
  obtain ⟨F, q⟩ := r.slot i
  rw [e] at q
  obtain ⟨p, vs, h1, _, h3, h4, h5⟩ := q
  exact ⟨p, vs, h1, h3, h4, h5⟩
theorem fLm_ok {i n : Nat} {g : LM} {σ : St} {H : Hp} {Q : VK} (h : liftE X L (fLm i g fr) σ H Q) : tBM X.K "list" (rLm X.K g) (tVar i) (liftA X L n fr) σ H Q := by
  obtain ⟨Z, Y, s, Xf, Qf, r, k, xo, h, q⟩ := h
  obtain ⟨xs0, e0, h⟩ := onL_ok h
  obtain ⟨p, vs, hv, hp, _, _⟩ := r.slotL e0
  refine ⟨.ref p, getD_some hv, .inl ⟨rfl, vs, .inl (.inl hp)⟩, Z, Y, s, Xf, _, r, k, xo, h, fun us H1 Z1 rs s1 hz rx hn h1 => ?_⟩
  obtain ⟨Z2, ds, s2, hz2, rx2, h2⟩ := frzAll_ok (us := []) (ds := []) rx rfl h1
  obtain ⟨xs, e2, h3⟩ := onL_ok h2
  have r2 := rx2.rel0
  obtain ⟨p', vs', hv', hp', hl', ra'⟩ := r2.slotL e2
  rw [hv] at hv'
  cases hv'
  refine ⟨Z2, p, vs', xs, ds, _, rfl, hp', hl', ra', r2.zh, rx2.rps, h3, fun u d vs2 xs2 hq ru hl2 ra2 => ?_⟩
  have w := r2.write (i := i) (xs' := xs2) (vs' := vs2) e2 hv hl2 ra2
  exact q u _ Z2 _ _ (hz.trans hz2) (.d w ru) hq
variable {nm : Str} {apos cpos : Pos} {y : Str} {px : Pos}
theorem pf_lm (i : Nat) {g : LM} (slot : Slot "list" nm id) (hty : typeOf (.builtin id) = pure (.type "method_descriptor")) (hm : MtR X id (rLm X.K g)) (ha : PFA X L (e :: es) fr)
    (ho : PE X (.Name y px) (tVar i)) (hbase : attributeBase (.Name y px) nm X.env (eval (.Name y px) X.env) = eval (.Name y px) X.env := by rfl)
    (hfew : ((backTo cpos (starEach (e :: es) X.env)).all (fun x => !x.1) && (backToKw cpos (keywordEach [] X.env)).all (fun x => x.1.isSome)
      && decide ((e :: es).length + ([] : List Keyword).length + (if ([] : List Keyword).isEmpty then 0 else 1) < 30)) = true := by rfl)
    (hline : (apos.endLine == cpos.line) = true := by rfl) (hs : starEach (e :: es) X.env = (false, eval e X.env) :: starEach es X.env := by rfl) (hplain : (backTo cpos (starEach es X.env)).any (·.1) = false := by rfl) :
    PF X L (.Call (.Attribute (.Name y px) nm apos) (e :: es) [] cpos) (fLm i g fr) := PE_imp (pe_bm PySem.F.plainAttrs_list slot hty hm ho ha hbase hfew hline hs hplain) fun _ _ _ => fLm_ok
theorem pf_lm0 (i : Nat) {g : LM} (slot : Slot "list" nm id) (hty : typeOf (.builtin id) = pure (.type "method_descriptor")) (hm : MtR X id (rLm X.K g))
    (ho : PE X (.Name y px) (tVar i)) (hbase : attributeBase (.Name y px) nm X.env (eval (.Name y px) X.env) = eval (.Name y px) X.env := by rfl) (hline : (apos.endLine == cpos.line) = true := by rfl) :
    PF X L (.Call (.Attribute (.Name y px) nm apos) [] [] cpos) (fLm i g fNil) := PE_imp (pe_bm0 PySem.F.plainAttrs_list slot hty hm ho hbase hline) fun σ H Q h => by
  have h2 := fLm_ok (n := 0) h
  obtain ⟨v, e, ty, Z, Y, s, Xf, Qf, r, k, xo, h, q⟩ := h2
  exact ⟨v, e, ty, q [] H Z [] s (Same.refl _) (.nil r) rfl h⟩
theorem fm_append : MtR X "list.append" (rLm X.K mAppend) := by
  intro pins s σ H x us v vs Q I rx rv ⟨Z, p, ws, xs, ds, Qf, ex, hp, hl, ra, hz, rd, g, q⟩
  unfold mAppend at g
  split at g
  · cases rd with
    | cons r1 r2 =>
      cases r2
      have l1 := ra.length
      exact mt_append pins s σ H x _ v vs Q I rx rv ⟨p, ws, _, ex, rfl, hp, by omega, q _ _ _ _ g.2 .non (by rw [List.length_append]; show ws.length + 1 ≤ _; omega) (ra.append (.cons r1 .nil))⟩
  · exact g.elim
theorem fm_clear : MtR X "list.clear" (rLm X.K mClear) := by
  intro pins s σ H x us v vs Q I rx rv ⟨Z, p, ws, xs, ds, Qf, ex, hp, hl, ra, hz, rd, g, q⟩
  unfold mClear at g
  split at g
  · cases rd
    exact mt_clear pins s σ H x _ v vs Q I rx rv ⟨p, ws, ex, rfl, hp, q _ _ _ _ g .non (Nat.zero_le _) .nil⟩
  · exact g.elim
theorem fm_insert : MtR X "list.insert" (rLm X.K mInsert) := by
  intro pins s σ H x us v vs Q I rx rv ⟨Z, p, ws, xs, ds, Qf, ex, hp, hl, ra, hz, rd, g, q⟩
  unfold mInsert at g
  split at g
  · cases rd with
    | cons r1 r2 =>
      cases r2 with
      | cons r2 r3 =>
        cases r3; cases r1
        have l1 := ra.length
        exact mt_insert pins s σ H x _ v vs Q I rx rv ⟨p, ws, _, _, ex, rfl, hp, by omega, g.2.1, g.2.2.1, q _ _ _ _ g.2.2.2 .non (by simp; omega) (((ra.take _).append (.cons r2 .nil)).append (ra.drop _))⟩
  · exact g.elim
theorem RpAll.erase {Z : Hp} {vs : List V} {ds : List D} (r : RpAll K Z vs ds) (i : Nat) : RpAll K Z (vs.eraseIdx i) (ds.eraseIdx i) := by
  rw [List.eraseIdx_eq_take_drop_succ, List.eraseIdx_eq_take_drop_succ]
  exact (r.take i).append (r.drop (i + 1))
theorem fm_popAt : MtR X "list.pop" (rLm X.K mPopAt) := by
  intro pins s σ H x us v vs Q I rx rv ⟨Z, p, ws, xs, ds, Qf, ex, hp, hl, ra, hz, rd, g, q⟩
  unfold mPopAt at g
  split at g
  · rename_i j
    obtain ⟨g1, g2, g3⟩ := g
    split at g3
    · rename_i d hd
      cases rd with
      | cons r1 r2 =>
        cases r1; cases r2
        obtain ⟨w, hw, rw'⟩ := ra.get hd
        have hlt := (List.getElem?_eq_some_iff.mp hw).1
        exact mt_popAt pins s σ H x _ v vs Q I rx rv ⟨p, ws, _, j.toNat, w, ex, rfl, hp, by omega, g2, seqIndex_of g1 (by omega), hw, q _ _ _ _ g3 rw' (Nat.le_trans (List.length_eraseIdx_le ..) hl) (ra.erase _)⟩
    · exact g3.elim
  · exact g.elim
theorem ext_lists {pins : List (Addr × Obj)} {s : Shared} {σ : St} {H : Hp} {l b : Addr} {xs zs : List V} {v u : Value} {Q : VK} (I : Inv X pins σ H s) (hH : H l = some (.lst xs)) (hB : Rd H b (.lst zs)) (hz : xs.length + zs.length ≤ sizeLine) (q : Q .non (upd H l (.lst (xs ++ zs)))) :
    wpAny (model X.prog X.w) X.A (call (.builtin "list.extend") [.ref l, .ref b]) (EP X pins σ Q) X.xe s := by
  obtain ⟨z, its, n, r, hl, e⟩ := I.lstM hH
  obtain ⟨z2, its2, n2, r2, e2⟩ := hB.ok I.hok
  have hl2 := r2.length
  have hsz : its.toArray.size + its2.toArray.size ≤ sizeLine := by rw [List.size_toArray, List.size_toArray]; omega
  have hlong : ¬ (!its.toArray.isEmpty && Builtin.List.listTooLong (its.toArray.size + its2.toArray.size)) = true := by
    rw [notLongL hsz, Bool.and_false]
    exact Bool.false_ne_true
  refine call_meets F.slot_list_extend ⟨_, e, rfl⟩ F.entry_list_extend (F.args_list_extend_2 _ _)
    (AutoSeq1.list_extend_list_list_0 l its.toArray n b its2.toArray n2 hlong (by rw [List.size_toArray]; omega) (by omega)) ⟨e, e2, ?_⟩
  refine ⟨.non, _, I.lset (its' := its ++ its2) hH e (by simp) (r.append r2) ?_, rfl, q⟩
  rw [List.length_append]
  omega
theorem fm_extend : MtR X "list.extend" (rLm X.K mExtend) := by
  intro pins s σ H x us v vs Q I rx rv ⟨Z, p, ws, xs, ds, Qf, ex, hp, hl, ra, hz, rd, g, q⟩
  unfold mExtend at g
  split at g
  · cases rd with
    | cons r1 r2 =>
      cases r2
      subst ex
      cases rx
      cases r1 with
      | lst h z a =>
        obtain ⟨u, rfl, ru⟩ := rv.one
        cases ru
        have l1 := ra.length
        have l2 := a.length
        exact ext_lists (v := .none) (u := .none) I hp (same_rd hz h) (by omega) (q _ _ _ _ g.2 .non (by rw [List.length_append]; omega) (ra.append a))
  · exact g.elim

/-! ### xs[j] = e -/
theorem pfs_setIx (i : Nat) {po : Pos} {j : Expr} {fj : FE} (he : PF X L e fa) (ho : PE X (.Name y px) (tVar i)) (hj : PF X L j fj)
    (ha : ∀ v, assign (.Subscript (.Name y px) j po) X.env v = (do
      let ov ← holding [v] (eval (.Name y px) X.env)
      let iv ← holding [v, ov] (eval j X.env)
      standAt po
      holding [v, ov, iv] (setItem ov iv v)
      release [v, ov, iv] []) := by intro _; rfl) (hs : swapsWithSole [.Subscript (.Name y px) j po] e pos.line X.env = pure false := by rfl) (hw : swappedStores [.Subscript (.Name y px) j po] e X.env = pure none := by rfl)
    (h1 : (assignEach [.Subscript (.Name y px) j po] X.env).map (·.2) = [assign (.Subscript (.Name y px) j po) X.env] := by rfl) : PFS X L (.Assign [.Subscript (.Name y px) j po] e pos) (fSetIx i fj fa) :=
  PS_imp (ps_asg he (pg_sub ho hj set_list ha) hs hw h1) fun D σ H ⟨Z, Y, s, Ef, r, k, h, eo⟩ => by
  refine ⟨Z, Y, s, Ef.xx, _, r, k, eo.xx, h, fun v H1 Z1 r1 s1 hz rx h1 => ?_⟩
  obtain ⟨xs0, e0, h1⟩ := onL_ok h1
  obtain ⟨q, vs0, hv, _, _, _⟩ := rx.rel0.slotL e0
  obtain ⟨Y', hy, rl, bk, fw⟩ := rx.frame
  refine ⟨.ref q, getD_some hv, Z1, Y', s1, Ef.xx, _, rl, k, (eo.xx.z hz).mono (Same.refl _) bk, h1, fun w H2 Z2 rj s2 hz2 rx2 h2 => ?_⟩
  split at h2
  · rename_i kk
    have ew := rx2.vi
    subst ew
    have rx3 := fw Z2 H2 s2 [] [] hz2 (.nil rx2.rel0)
    obtain ⟨Z3, d, s3, hz3, rx4, h3⟩ := frz_ok (us := []) (ds := []) (vs := []) (rs := []) rx3 rfl h2
    obtain ⟨xs, e2, h0, hlt, h4⟩ := onL_ok h3
    obtain ⟨q', vs', hv', hp', hl', ra'⟩ := rx4.rel0.slotL e2
    rw [hv] at hv'
    cases hv'
    have w := rx4.rel0.write (i := i) (xs' := xs.set kk.toNat d) (vs' := vs'.set kk.toNat v) e2 hv (by rw [List.length_set]; exact hl') (ra'.set rx4.vd _)
    refine ⟨q, vs', kk, kk.toNat, rfl, rfl, hp', ?_, eo.nx σ _ Z3 _ ((hz.trans hz2).trans hz3) k w h4⟩
    unfold ixN
    rw [if_pos h0, if_pos (by rw [ra'.length]; omega)]
  · exact h2.elim
end
end Hs
/-! HsH: a text's defs known by names; raise; the module's constants; the law's end. -/
namespace Hs
open PySem PySem.Spec PyProof.Rows L2
/-- what is known of a text: the head's facts, the base below -/
structure TxOk (fa : List He.Fa) (fn : List He.DefD) (K : PySem.W.Frag) (mg : Str → Option Value) (base : Heap) : Prop where
  c : He.SaysD fa fn K
  X : K.In base
  G : base.Ns mainGlobals mg
section
variable {fa : List He.Fa} {fn : List He.DefD} {K : PySem.W.Frag} {mg : Str → Option Value} {base : Heap}
theorem TxOk.free (T : TxOk fa fn K mg base) (i : Nat) {x : Str} (h : fa[i]? = some (.free x) := by rfl) : mg x = none := He.free_ok T.X T.G (T.c.fact i h)
theorem TxOk.glo (T : TxOk fa fn K mg base) (i : Nat) {x : Str} (h : fa[i]? = some (.glo x) := by rfl) : mg x = some (.ref (He.ga K x)) := He.glo_ok T.X T.G (T.c.fact i h)
theorem TxOk.int (T : TxOk fa fn K mg base) (i : Nat) {x : Str} {z : Int} (h : fa[i]? = some (.int x z) := by rfl) : ∃ t, mg x = some (.int z t) := He.int_ok T.X T.G (T.c.fact i h)
theorem TxOk.str (T : TxOk fa fn K mg base) (i : Nat) {x z : Str} (h : fa[i]? = some (.str x z) := by rfl) : ∃ t, mg x = some (.str z t) := He.str_ok T.X T.G (T.c.fact i h)
theorem TxOk.exc (T : TxOk fa fn K mg base) (i : Nat) {x : Str} (h : fa[i]? = some (.exc x) := by rfl) : PySem.W.excIn K (He.ga K x) He.veBase "ValueError.__new__" = true ∧ PySem.W.keepIn K (.ref (He.ga K x)) = true ∧ PySem.W.subIn K (.ref (He.ga K x)) (.type "BaseException") = some true ∧ PySem.W.typeIn K (.ref (He.ga K x)) = some (.type "type") := He.exc_ok (T.c.fact i h)
end
/-- a def of the text -/
def Df (P : Program) (w : World) (K : PySem.W.Frag) (mg : Str → Option Value) (base : Heap) (x : Str) (k : Nat) (ps : List Str) (ms : List Bool) (sem : FSem) : Prop :=
  ∃ f fd, FnOk P w K mg base (L2.CX P w) k f fd ps (liftSp K mg (ioOf ms) ps.length sem) ∧ Binds K fd ps [] ∧ mg x = some (.ref f) ∧ PySem.W.keepIn K (.ref f) = true
/-- how a def is looked at by names -/
abbrev dOf (x : Str) (st : Stmt) : He.DefD := ⟨(x, none), x, x, defArgs st, defBody st, defScope st, [], []⟩
theorem funOf {K : PySem.W.Frag} {x q : Str} {st : Stmt} {f : Addr} {fd : FuncData} {kws : List (Str × V)} (F : FunD K x q (defArgs st) (defBody st) (defScope st) [] kws f fd) : Fun K x q st f fd := by
  obtain ⟨oc, od, dV, kV, doc, pm, an, cdv, ct, osl, e, l, c, hd, hk⟩ := F.ex
  rcases hd with ⟨h0, h1⟩ | ⟨h0, _⟩
  · subst h1
    exact ⟨⟨oc, od, kV, doc, pm, an, cdv, ct, osl, e, l, c⟩, F.kp⟩
  · exact (h0 rfl).elim
section
variable {P : Program} {w : World} {K : PySem.W.Frag} {mg : Str → Option Value} {base : Heap} {fa : List He.Fa} {fn : List He.DefD}
theorem dfOk (T : TxOk fa fn K mg base) {x : Str} {st : Stmt} {N ps : List Str} {ms : List Bool} {bd : FS} {k : Nat} (i j : Nat) (sco : FnScope N ps (defScope st)) (hnp : ps.length ≤ N.length)
    (hbi : ∀ (kV doc pm : Value) (an : Option Addr) (cdv ct : Value) (us : List Value), us.length = ps.length → bindArgs (PySem.W.fnOf x x (defArgs st) (defBody st) (defScope st) .none kV doc pm an cdv ct) ⟨us, []⟩ = pure (ps.zip us))
    (hb : ∀ (f : Addr) (cdv : Value) (A : Around) (outer : List Env) (s : Shared) (H : Hp) (vs : List V) (E : XK), Room k (A.deeper (envOfC x (defScope st) s.heap.objs.size f cdv)) →
      PFSs (cxOf (L2.CX P w) P w K mg base N x (defScope st) f cdv A outer s H E) ⟨fun cls d _ H => E cls d H, ioOf ms, L2.start N vs⟩ (defBody st) bd)
    (h : fn[i]? = some (dOf x st) := by rfl) (hg : fa[j]? = some (.glo x) := by rfl) : Df P w K mg base x (k + 1) ps ms (semOf ps.length N.length bd) := by
  obtain ⟨fd, F⟩ := T.c.def_ i h
  exact ⟨_, fd, okF (funOf F) sco hnp fun cdv A outer s H vs E hr => hb _ cdv A outer s H vs E hr, F.bindsN hbi, T.glo j hg, F.kp⟩
/-- a def of which nothing is said yet -/
theorem dfNone (T : TxOk fa fn K mg base) {x : Str} {st : Stmt} {ps : List Str} {ms : List Bool} {k : Nat} (i j : Nat)
    (hbi : ∀ (kV doc pm : Value) (an : Option Addr) (cdv ct : Value) (us : List Value), us.length = ps.length → bindArgs (PySem.W.fnOf x x (defArgs st) (defBody st) (defScope st) .none kV doc pm an cdv ct) ⟨us, []⟩ = pure (ps.zip us))
    (h : fn[i]? = some (dOf x st) := by rfl) (hg : fa[j]? = some (.glo x) := by rfl) : Df P w K mg base x k ps ms (fun _ _ _ => False) := by
  obtain ⟨fd, F⟩ := T.c.def_ i h
  exact ⟨_, fd, ⟨fun vs H Q E ⟨_, _, _, _, _, hl, _⟩ => hl, fun A outer s H args us vs Q E hr he hb hv ⟨_, _, _, _, _, _, _, no, _⟩ => no.elim⟩, F.bindsN hbi, T.glo j hg, F.kp⟩
theorem Df.up {x : Str} {j k : Nat} {ps : List Str} {ms : List Bool} {sem : FSem} (D : Df P w K mg base x j ps ms sem) (h : j ≤ k) : Df P w K mg base x k ps ms sem := by
  obtain ⟨f, fd, F, b, m, kp⟩ := D
  exact ⟨f, fd, F.mono h, b, m, kp⟩
variable {X : Cx} {L : Lv} {e a b : Expr} {es : List Expr} {fr : FA} {pos p : Pos} {x : Str} {ps : List Str} {ms : List Bool} {k : Nat}
theorem pf_callD {sem : FSem} (D : Df X.prog X.w X.K X.mg X.base x k ps ms sem) (hr : Room k X.A) (hx : ∀ σ, PassesAt (L2.CX X.prog X.w) X σ (fun cls d H => L.E cls d σ H)) (ha : PFA X L (e :: es) fr) (hl : ps.length = es.length + 1 := by rfl) (hg : Gl X x := by rfl)
    (hn : ms.length = es.length + 1 := by rfl) (hdb : (x == ("__debug__" : Str)) = false := by decide) (he : starEach (e :: es) X.env = (false, eval e X.env) :: starEach es X.env := by rfl) (hpl : (backTo pos (starEach es X.env)).any (·.1) = false := by rfl) :
    PF X L (.Call (.Name x p) (e :: es) [] pos) (fCall sem ms fr) := by
  obtain ⟨f, fd, F, bi, m, kp⟩ := D
  rw [hl] at F
  exact pf_call F hr m kp bi hx ha hg hn hdb he hpl
theorem _root_.L2.Room.u64 {A : Around} (r : Room k A) : A.units + 64 < cLine := by have := r.un; omega
theorem _root_.L2.Room.u100 {A : Around} (r : Room k A) : A.units + 100 < cLine := by have := r.un; omega
theorem _root_.L2.Room.u65 {A : Around} (r : Room k A) : A.units + 65 < cLine := by have := r.un; omega

/-! ### raise -/
theorem pfs_raise {C : Addr} {m : Str} {j : Nat} {p2 pos' : Pos} (hc : X.calm = true) (tk : Takes X L.E) (gC : X.mg x = some (.ref C))
    (q : PySem.W.excIn X.K C He.veBase "ValueError.__new__" = true ∧ PySem.W.keepIn X.K (.ref C) = true ∧ PySem.W.subIn X.K (.ref C) (.type "BaseException") = some true ∧ PySem.W.typeIn X.K (.ref C) = some (.type "type")) (hg : Gl X x := by rfl) (hdb : (x == ("__debug__" : Str)) = false := by decide) :
    PFS X L (.Raise (some (.Call (.Name x p) [.Constant (.str m) j p2] [] pos)) none pos') (fRaise x) :=
  PS_imp (ps_raise hc tk (pmk_own PySem.F.excBase_ValueError q.1 gC q.2.1 (raises_own q.2.2.1 q.2.2.2) hg hdb)) fun D σ H ⟨Z, Y, s, Ef, r, kk, h, eo⟩ => eo.xx x C Z H σ s (Same.refl _) kk r h gC

/-! ### the module's constants -/
theorem pf_globI {i : Int} (h : ∃ t, X.mg x = some (.int i t)) (hg : Gl X x := by rfl) (hd : (x == ("__debug__" : Str)) = false := by decide) : PF X L (.Name x pos) (fC (.int i)) := by
  obtain ⟨t, e⟩ := h
  exact pf_C (pe_glob (v := .int i) hg e ⟨t, rfl⟩ hd) fun _ => .int i
theorem pf_globS {i : Str} (h : ∃ t, X.mg x = some (.str i t)) (hg : Gl X x := by rfl) (hd : (x == ("__debug__" : Str)) = false := by decide) : PF X L (.Name x pos) (fC (.str i)) := by
  obtain ⟨t, e⟩ := h
  exact pf_C (pe_glob (v := .str i) hg e ⟨t, rfl⟩ hd) fun _ => .str i

/-- a power of constants -/
theorem pf_powC {i j : Int} (r : Int) {k1 k2 : Nat} {p1 p2 : Pos} (h1 : 0 ≤ j := by decide) (h2 : j ≤ 1000000 := by decide) (h3 : i.natAbs < 2 ^ 64 := by decide) (e : i ^ j.toNat = r := by decide) : PF X L (.BinOp (.Constant (.int i) k1 p1) .Pow (.Constant (.int j) k2 p2) pos) (fC (.int r)) :=
  PE_imp (pf_op fop_pow pf_int pf_int) fun σ H Q ⟨Z, Y, s, Xf, Qf, rl, kk, xo, h, q⟩ => ⟨Z, Y, s, Xf, Qf, rl, kk, xo, ⟨h1, h2, h3, by rw [e]; exact h⟩, q⟩
/-! ### built-ins by names -/
theorem bb_len : bootBuiltins "len" = some (.builtin "len") := by decide +kernel
theorem bb_abs : bootBuiltins "abs" = some (.builtin "abs") := by decide +kernel
theorem bb_max : bootBuiltins "max" = some (.builtin "max") := by decide +kernel
theorem bb_min : bootBuiltins "min" = some (.builtin "min") := by decide +kernel
theorem bb_all : bootBuiltins "all" = some (.builtin "all") := by decide +kernel
theorem bb_any : bootBuiltins "any" = some (.builtin "any") := by decide +kernel
theorem bb_sum : bootBuiltins "sum" = some (.builtin "sum") := by decide +kernel
theorem bb_sorted : bootBuiltins "sorted" = some (.builtin "sorted") := by decide +kernel
theorem bb_repr : bootBuiltins "repr" = some (.builtin "repr") := by decide +kernel
theorem bb_int : bootBuiltins "int" = some (.type "int") := by decide +kernel
theorem bb_str : bootBuiltins "str" = some (.type "str") := by decide +kernel
theorem bb_tuple : bootBuiltins "tuple" = some (.type "tuple") := by decide +kernel
theorem bb_list : bootBuiltins "list" = some (.type "list") := by decide +kernel
theorem bb_bool : bootBuiltins "bool" = some (.type "bool") := by decide +kernel
theorem bb_dict : bootBuiltins "dict" = some (.type "dict") := by decide +kernel
theorem bb_set : bootBuiltins "set" = some (.type "set") := by decide +kernel

/-! ### the law's end -/
theorem lawSp {sem : FSem} {H : Hp} {a : Addr} {ns : List Int} {ms : List Bool} (hS : SqL K H a (ns.map V.int)) (hz : ns.length ≤ sizeLine) (h : sem [.d (litD ns)] (fun _ _ => False) (fun r _ => r = .d (.bool true))) :
    liftSp K mg (ioOf ms) 1 sem [.ref a] H (fun v _ => v = .bl true) fun _ _ _ => False := by
  refine ⟨H, fun _ => none, [.d (litD ns)], _, _, rfl, ⟨Same.refl _, fun a q e => (nomatch e), fun _ _ => rfl, fun _ _ e => (nomatch e), rfl, ⟨fun _ => [], ⟨fun i => ?_, fun _ => .nil, fun i j a ha => (nomatch ha), fun i a ha => (nomatch ha)⟩⟩⟩, h, ?_, ?_⟩
  · cases i with
    | zero => exact ⟨rfl, .ref a, rfl, .lit hS hz⟩
    | succ i => exact rfl
  · intro u H' Z' σ' fin r hz kk hl rx nt e
    subst e
    have q := rx.vd
    cases q
    rfl
  · intro n C H' Z' σ' fin _ _ _ _ h _
    exact h.elim
theorem walk_ofBE {l : PySem.W.OpenLaw} {n k : Nat} {q : Program} {loose : List Str} {XP : (Str → Option Value) → Heap → Prop} {YP : World → Heap → Prop} {d : DefRec} {ms : List Bool} {sem : FSem}
    (hn : l.most = some n) (hn2 : n ≤ sizeLine) (hdf : d.params.defaults = []) (hr : Room k callerA)
    (F : ∀ (w : World) (mg : Str → Option Value) (f : Addr) (h : Heap), YP w h → h.Ns mainGlobals mg → mg d.name = some (.ref f) →
      ∃ (K : PySem.W.Frag) (fd : FuncData), K.In h ∧ (∀ (s : Shared) (u : Value), BindsTo s fd ⟨[u], []⟩ [("script", u)]) ∧
        ∀ base : Heap, K.In base → base.Ns mainGlobals mg → FnOk l.prog w K mg base (L2.CX l.prog w) k f fd ["script"] (liftSp K mg (ioOf ms) 1 sem))
    (law : ∀ ns : List Int, ns.length ≤ n → (∀ z ∈ ns, Builtin.Int.intBits z ≤ 1048576) → sem [.d (litD ns)] (fun _ _ => False) (fun r _ => r = .d (.bool true))) :
    PySem.W.WalkO q loose XP YP l.row.toRowW d [] (fun f vs => PySem.call f vs) := by
  refine Att.attach_callB hn hdf fun w s₀ s₁ mg mb f o pm cd doc a vs ns G Y ho hd hcd hmg hobj hints hlen hbits hg => ?_
  obtain ⟨K, fd, KX, hb, hF⟩ := F w mg f _ Y G.T.g hmg
  exact law_call KX G.T.g G.T.b G.T.builtins G.T.nolimit hg hobj hints (Nat.le_trans hlen hn2) hr hF hb (fun H hO hS => lawSp hS (Nat.le_trans hlen hn2) (law ns hlen hbits)) fun H e s' ⟨_, _, _, _, _, _, _, _, _, _, _, _, z⟩ => z
end
end Hs
/-! HsI: more rules: enumerate, zip, reversed slices, ranges as lists, sorted. -/
namespace Hs
open PySem PySem.Spec PyProof.Rows L2
def iEnumL (a : FA) : FI := fun X s Q => a X s fun rs s1 => frzAll rs s1 fun ds s2 => match ds with
  | [.list xs] => Q (enumD xs) s2
  | [.tuple xs] => Q (enumD xs) s2
  | _ => False
def iZipS (a : FA) : FI := fun X s Q => a X s fun rs s1 => frzAll rs s1 fun ds s4 => match ds with
  | [.list xs, .list ys] => Q (zipD xs ys) s4
  | [.tuple xs, .tuple ys] => Q (zipD xs ys) s4
  | _ => False
abbrev mkT (xs : List D) : R := .d (.tuple xs)
abbrev mkL (xs : List D) : R := .own (.l xs)
def fRg1 (mk : List D → R) (a : FE) : FE := fun X s Q => a X s fun r s1 => match r with
  | .d (.int j) => RgOk 0 j ∧ Q (mk (rangeD 0 j.toNat)) s1
  | _ => False
def fRg2 (mk : List D → R) (a b : FE) : FE := fun X s Q => a X s fun r1 s1 => b X s1 fun r2 s2 => match r1, r2 with
  | .d (.int i), .d (.int j) => RgOk i j ∧ Q (mk (rangeD i (j - i).toNat)) s2
  | _, _ => False
section
variable {X : Cx} {L : Lv} {e a b c : Expr} {es : List Expr} {fa fb fc : FE} {fr : FA} {pos p : Pos} {K : PySem.W.Frag} {Z H : Hp}

/-! ### enumerate(list), zip -/
theorem enumD_get {xs : List D} {i : Nat} {d : D} (h : xs[i]? = some d) : (enumD xs)[i]? = some (.tuple [.int (i : Nat), d]) := by
  unfold enumD
  rw [List.getElem?_map, List.getElem?_zipIdx, h]
  simp
theorem enumD_len {xs : List D} : (enumD xs).length = xs.length := by unfold enumD; simp
theorem walks_enum {q : Addr} {vs : List V} {xs : List D} (h : SqL K Z q vs) (r : RpAll K Z vs xs) : Walks K Z (Ite K q) (enumD xs) where
  stop := fun i H e hi => ⟨vs, e.seq h, by rw [r.length]; rw [enumD_len] at hi; exact hi⟩
  go := fun i H e hi => by
    rw [enumD_len] at hi
    exact ⟨vs, vs[i]'(by rw [r.length]; exact hi), e.seq h, by simp⟩
  yld := fun i H v H' Zc e1 e2 hi ⟨T, x, ev, hT, eh, hv⟩ => by
    subst ev eh
    obtain ⟨d, hd, rd⟩ := r.getV (hv vs ((e1.trans e2).seq h))
    exact ⟨_, upd Zc T _, enumD_get hd, NewR.tup (xs := [.int (i : Nat), d]) e2 hT (by show 2 ≤ 16777216; decide) (.cons (.int _) (.cons (rd.same e1) .nil))⟩
/-! ### enumerate(tuple) -/
set_option maxHeartbeats 4000000 in
theorem meets_enumerate_new1 {v : Value} {o : Obj} {H : Heap → Prop} (B : Begins v o H) :
    Meets (Builtin.«enumerate.__new__» ⟨[.type "enumerate", v], []⟩) (fun _ R s => H s.heap ∧
      R (.ok (.ret (.ref (s.heap.push o).objs.size))) { s with heap := (s.heap.push o).push { cls := .type "enumerate", data := .fields #[.none, .bool false, .ref s.heap.objs.size, rawInt 0, .none, .none] } }) :=
  .of_wp fun prog w A R s h => by
    obtain ⟨hp, g, d, tk, os⟩ := s; obtain ⟨h1, h⟩ := h
    have hsub := sub_enumerate
    have q1 : ∀ {A' : Around} {E : Value → Shared → Prop} {Q : Value → Shared → Prop}, Q (.ref hp.objs.size) ⟨hp.push o, g, d, tk, os⟩ → wpAny (model prog w) A' (pyIter v) Q E ⟨hp, g, d, tk, os⟩ :=
      fun q => B.iter prog w _ _ ⟨hp, g, d, tk, os⟩ _ h1 q
    wp_walk using q1
    refine wpAny_stack_any fun st => wpAny_pure ?_
    split
    · rename_i c _ _ _ _ _
      cases (c == Value.type "enumerate")
      · wp_walk using q1
        exact ⟨_, rfl, h⟩
      · wp_walk using q1
        exact ⟨_, rfl, h⟩
    · wp_walk using q1
      exact ⟨_, rfl, h⟩
theorem call_enumerate_tuple {prog : Program} {w : World} {A : Around} {E : Value → Shared → Prop} {s : Shared} {l : Addr} {items : Array Value} {Q : Value → Shared → Prop} (hL : s.heap.IsTuple l items)
    (h : ∀ h', IsEnum h' (s.heap.objs.size + 1) s.heap.objs.size 0 .none → h'.IsTupleIter s.heap.objs.size l 0 → h'.objs.size = s.heap.objs.size + 2 →
      (∀ b o, s.heap.get? b = some o → h'.get? b = some o) → Q (.ref (s.heap.objs.size + 1)) { s with heap := h' }) :
    wpAny (model prog w) A (call (.type "enumerate") [.ref l]) Q E s := by
  refine callType_new F.called_enumerate (by decide) (F.typeCall_enumerate_1 _) (F.newCall_enumerate_1 _) (fun obj => F.args_object_init_2 obj _) F.entry_enumerate_new
    (meets_enumerate_new1 (begins_tuple l items)) ⟨hL, ?_⟩
  have hz : (s.heap.push { cls := .type "tuple_iterator", data := .fields #[.ref l, .int 0 0] }).objs.size = s.heap.objs.size + 1 := Heap.size_push ..
  show _ ∧ _
  rw [hz]
  have he : IsEnum ((s.heap.push { cls := .type "tuple_iterator", data := .fields #[.ref l, .int 0 0] }).push
      { cls := .type "enumerate", data := .fields #[.none, .bool false, .ref s.heap.objs.size, rawInt 0, .none, .none] }) (s.heap.objs.size + 1) s.heap.objs.size 0 .none := by
    have := Heap.get?_push_size (s.heap.push { cls := .type "tuple_iterator", data := .fields #[.ref l, .int 0 0] })
      (o := { cls := .type "enumerate", data := .fields #[.none, .bool false, .ref s.heap.objs.size, rawInt 0, .none, .none] }) rfl
    rw [hz] at this; exact this
  refine ⟨⟨_, he, rfl⟩, h _ he ⟨_, Heap.get?_push_of_some _ (Heap.get?_push_size _ rfl), rfl, rfl⟩ (by rw [Heap.size_push, hz]) fun b o x => Heap.get?_push_of_some _ (Heap.get?_push_of_some _ x)⟩
theorem drawn_out {prog : Program} {w : World} {A : Around} (hh : A.handled = none) (it t : Addr) (items : Array Value) (i : Nat) (hi : items[i]? = none) :
    Draws prog w A it [it, t] i (fun _ _ => False) (fun j h => j = i ∧ h.IsTupleIter it t i ∧ h.IsTuple t items) where
  live := fun _ _ st => let ⟨o, ho, _⟩ := st.2.1; ⟨o, ho⟩
  frame := fun _ _ _ st hk => ⟨st.1, st.2.1.at fun o e => hk it (by simp) o e, st.2.2.at fun o e => hk t (by simp) o e⟩
  item := fun j s Q E hj st hQ => by have := st.1; omega
  done := fun s Q E st hE => wpAny_nextOf_tuple_end hh st.2.1 st.2.2 hi hE
def IteT (K : PySem.W.Frag) (a : Addr) : It :=
  ⟨fun i H => ∃ (xs : List V) (x : V), SqT K H a xs ∧ xs[i]? = some x, fun i H v H' => ∃ T x, v = .ref T ∧ H T = none ∧ H' = upd H T (.tup [.int (i : Nat), x]) ∧ ∀ xs, SqT K H a xs → xs[i]? = some x, fun i H => ∃ xs : List V, SqT K H a xs ∧ xs.length ≤ i⟩
theorem turn_enumT {P : Program} {w : World} {K : PySem.W.Frag} {elts : List Expr} {kk : Nat} {tpos : Pos} (a e it : Addr) :
    Turn P w K (.Tuple elts kk tpos) (IteT K a) [e, it] e (fun i h => (∃ old, IsEnum h e it ((i : Nat) : Int) old) ∧ h.IsTupleIter it a i ∧ e ≠ it ∧ e ≠ a ∧ a ≠ it) where
  mem := by simp
  obj := fun i h st b hb => by
    obtain ⟨⟨old, he⟩, ⟨o, ho, hc, hd⟩, _⟩ := st
    have e' : b = e ∨ b = it := by simpa using hb
    rcases e' with z | z
    · rw [z]; exact ⟨_, he, fun v q => nomatch q⟩
    · rw [z]; exact ⟨o, ho, fun v q => by rw [hd] at q; cases q⟩
  keep := fun i h h' st k => let ⟨⟨old, he⟩, hi, hne⟩ := st; ⟨⟨old, k e (by simp) _ he⟩, hi.at fun o q => k it (by simp) o q, hne⟩
  item := by
    intro X hP hw hK hc i pins s σ H E I hf st hg
    subst hP hw hK
    obtain ⟨⟨old, he⟩, hit, hne, hea, hai⟩ := st
    obtain ⟨xs, x, hq, hx⟩ := hg
    obtain ⟨its, rv, p, hz⟩ := I.tuple hq
    obtain ⟨u, hu, ru⟩ := rv.get hx
    have hel : e < s.heap.objs.size := Heap.lt_size he
    have hil : it < s.heap.objs.size := by obtain ⟨_, q, _⟩ := hit; exact Heap.lt_size q
    have hil2 : i < its.toArray.size := by
      have := (List.getElem?_eq_some_iff.mp hu).1
      simpa using this
    refine wpAny_pyNext_enum_itemC (A := X.A) (Draws.tuple (A := X.A.in1) (I.ok.hd hc) it a hai its.toArray) he ⟨hit, p⟩ hil2 hne (by simp [hne, hea]) fun y h' tk hy ho hs' hT hsz hk => ?_
    have hyu : y = u := by
      have : its.toArray[i]? = some u := by simpa using hu
      rw [this] at hy; exact (Option.some.inj hy).symm
    subst hyu
    refine ⟨_, rfl, wpAny_letOwnedTupleGo_enum (s := { s with heap := h', toks := tk + 1 }) ho fun h'' he' sb => ?_⟩
    have hT2 : h''.get? s.heap.objs.size = some { cls := .type "tuple", data := .seq #[.int i tk, y] } := (sb.2 _ (Nat.ne_of_gt hel)).trans hT
    have new : ObjOk X.prog X.w (upd H s.heap.objs.size (.tup [.int (i : Nat), x])) h'' s.heap.objs.size (.tup [.int (i : Nat), x]) :=
      ⟨by show 2 ≤ sizeLine; decide, [.int i tk, y], .cons ⟨_, rfl⟩ (.cons ru .nil), ⟨_, hT2, rfl, _, rfl⟩⟩
    have I1 : Inv X pins σ (upd H s.heap.objs.size (.tup [.int (i : Nat), x])) { s with heap := h'', toks := tk + 1 } :=
      I.turnedNew (ch := [e, it]) (fun b ob hb q => (sb.2 b (fun z => hb (by simp [z]))).trans (hk b ob (fun z => hb (by simp [z])) (fun z => hb (by simp [z])) q)) hf (Nat.le_refl _) new
    refine ⟨.ref s.heap.objs.size, _, I1, rfl, ⟨_, x, rfl, I.hok.fresh (Nat.le_refl _), rfl, fun ys hy => by rw [I.tuple_inj hy hq]; exact hx⟩, ⟨⟨y, ?_⟩, hs'.1.at fun o q => (sb.2 it (Ne.symm hne)).trans q, hne, hea, hai⟩, fun b hb => ?_⟩
    · have e1 : ((i + 1 : Nat) : Int) = (i : Int) + 1 := by omega
      rw [e1]; exact he'
    · have hb' : b < s.heap.objs.size := by
        have e' : b = e ∨ b = it := by simpa using hb
        rcases e' with z | z
        · rw [z]; exact hel
        · rw [z]; exact hil
      rw [upd_ne (Nat.ne_of_lt hb')]
      exact (hf b hb).1
  done := by
    intro X hP hw hK hc i pins s σ H E I hf st hg
    subst hP hw hK
    obtain ⟨⟨old, he⟩, hit, hne, hea, hai⟩ := st
    obtain ⟨xs, hq, hx⟩ := hg
    obtain ⟨its, rv, p, hz⟩ := I.tuple hq
    obtain ⟨f0, f1, f2, f3, f4, f5⟩ := hf it (by simp)
    have hl := rv.length
    refine wpAny_pyNext_enum_endD (A := X.A) (drawn_out (A := X.A.in1) (I.ok.hd hc) it a its.toArray i (by simp; omega)) he ⟨rfl, hit, p⟩ fun h' eb => ⟨rfl, I.turned (t' := s.toks) (fun b o hb q => eb b o hb q) f0 f1 f3 f4 f5⟩
  self := fun A i s Q E st h => let ⟨⟨_, he⟩, _⟩ := st; wpAny_pyIter_enum he h
def iEnumB (K : PySem.W.Frag) (ta : TA) : TI := fun σ H R => ta σ H fun vs H1 => ∃ a xs, vs = [.ref a] ∧ ((SqL K H1 a xs ∧ R (Ite K a) H1) ∨ (SqT K H1 a xs ∧ R (IteT K a) H1))
theorem pi_enumB {X : Cx} {e : Expr} {ta : TA} {p pos tpos : Pos} {elts : List Expr} {kk : Nat} (hg : Gl X "enumerate") (hm : X.mg "enumerate" = none) (ha : PA X [e] ta) (hs : starEach [e] X.env = [(false, eval e X.env)] := by rfl) :
    PI X (.Tuple elts kk tpos) (.Call (.Name "enumerate" p) [e] [] pos) (iEnumB X.K ta) := by
  refine ⟨fun pins s σ H R I h => ?_⟩
  refine Call_ (ld_blt I hg hm boot_enumerate (PyProof.Rows.callWith_type1 (thn (ha.run pos pins s σ H _ I h) fun us s1 ⟨vs, H1, I1, r1, q1⟩ => ?_) hs rfl))
  obtain ⟨a, xs, ex, q⟩ := q1
  subst ex
  cases r1 with
  | cons r rr =>
    cases rr
    cases r
    have apart : ∀ b, b = s1.heap.objs.size + 1 ∨ b = s1.heap.objs.size → s1.heap.objs.size ≤ b := fun b e' => by
      rcases e' with z | z
      · rw [z]; exact Nat.le_add_right _ _
      · rw [z]; exact Nat.le_refl _
    rcases q with ⟨hq, q⟩ | ⟨hq, q⟩
    · obtain ⟨its, rv, p', hz⟩ := I1.list hq
      refine call_enumerate_list p'.isList fun h' he hit hsz hk => wpAny_pyIter_enum he ?_
      have I2 : Inv X pins σ H1 { s1 with heap := h' } := I1.kept (t' := s1.toks) hk
      refine ⟨s1.heap.objs.size + 1, [s1.heap.objs.size + 1, s1.heap.objs.size], _, _, H1, rfl, I2, turn_enum a (s1.heap.objs.size + 1) s1.heap.objs.size, ⟨⟨.none, he⟩, hit, Nat.succ_ne_self _⟩, fun b hb => ?_, q⟩
      have hle := apart b (by simpa using hb)
      exact I1.fpOk hle (I1.hok.fresh hle)
    · obtain ⟨its, rv, p', hz⟩ := I1.tuple hq
      have hal : a < s1.heap.objs.size := by obtain ⟨_, q, _⟩ := p'; exact Heap.lt_size q
      refine call_enumerate_tuple p' fun h' he hit hsz hk => wpAny_pyIter_enum he ?_
      have I2 : Inv X pins σ H1 { s1 with heap := h' } := I1.kept (t' := s1.toks) hk
      refine ⟨s1.heap.objs.size + 1, [s1.heap.objs.size + 1, s1.heap.objs.size], _, _, H1, rfl, I2, turn_enumT a (s1.heap.objs.size + 1) s1.heap.objs.size, ⟨⟨.none, he⟩, hit, Nat.succ_ne_self _, (fun e => Nat.lt_irrefl _ (Nat.lt_trans (Nat.lt_succ_self _) (e ▸ hal))), Nat.ne_of_lt hal⟩, fun b hb => ?_, q⟩
      have hle := apart b (by simpa using hb)
      exact I1.fpOk hle (I1.hok.fresh hle)
theorem walks_enumT {q : Addr} {vs : List V} {xs : List D} (h : SqT K Z q vs) (r : RpAll K Z vs xs) : Walks K Z (IteT K q) (enumD xs) where
  stop := fun i H e hi => ⟨vs, same_sqT e h, by rw [r.length]; rw [enumD_len] at hi; exact hi⟩
  go := fun i H e hi => by
    rw [enumD_len] at hi
    exact ⟨vs, vs[i]'(by rw [r.length]; exact hi), same_sqT e h, by simp⟩
  yld := fun i H v H' Zc e1 e2 hi ⟨T, x, ev, hT, eh, hv⟩ => by
    subst ev eh
    obtain ⟨d, hd, rd⟩ := r.getV (hv vs (same_sqT (e1.trans e2) h))
    exact ⟨_, upd Zc T _, enumD_get hd, NewR.tup (xs := [.int (i : Nat), d]) e2 hT (by show 2 ≤ 16777216; decide) (.cons (.int _) (.cons (rd.same e1) .nil))⟩
theorem pfi_enum {elts : List Expr} {kk : Nat} {tpos : Pos} (hg : Gl X "enumerate") (hm : X.mg "enumerate" = none) (ha : PFA X L [a] fr) (hs : starEach [a] X.env = [(false, eval a X.env)] := by rfl) :
    PFI X L (.Tuple elts kk tpos) (.Call (.Name "enumerate" p) [a] [] pos) (iEnumL fr) := PI_imp (pi_enumB hg hm ha hs) fun σ H R ⟨Z, Y, s, Xf, Qf, r, k, xo, h, q⟩ => by
  refine ⟨Z, Y, s, Xf, _, r, k, xo, h, fun vs H1 Z1 rs s1 hz rx hn h1 => ?_⟩
  obtain ⟨Z2, ds, s2, hz2, rx2, h2⟩ := frzAll_ok (us := []) (ds := []) rx rfl h1
  have ra := rx2.rps
  split at h2
  · cases ra with
    | cons r1 r2 =>
      cases r2
      cases r1 with
      | lst hq hl hr => exact ⟨_, _, rfl, .inl ⟨.inl (same_rd rx2.rel0.zh hq), q _ H1 Z2 s2 _ (hz.trans hz2) rx2.rel0 (walks_enum (.inl hq) hr) h2⟩⟩
  · cases ra with
    | cons r1 r2 =>
      cases r2
      cases r1 with
      | tup hq hl hr =>
        have hq := tupSq (K := X.K) hq
        exact ⟨_, _, rfl, .inr ⟨same_sqT rx2.rel0.zh hq, q _ H1 Z2 s2 _ (hz.trans hz2) rx2.rel0 (walks_enumT hq hr) h2⟩⟩
  · exact h2.elim
theorem zipD_get {xs ys : List D} {i : Nat} {d e : D} (h : xs[i]? = some d) (h2 : ys[i]? = some e) : (zipD xs ys)[i]? = some (.tuple [d, e]) := by
  unfold zipD
  rw [List.getElem?_zipWith, h, h2]
theorem zipD_len {xs ys : List D} : (zipD xs ys).length = min xs.length ys.length := by unfold zipD; simp
theorem walks_zip {q q' : Addr} {vs ws : List V} {xs ys : List D} (h : SqL K Z q vs) (r : RpAll K Z vs xs) (h' : SqL K Z q' ws) (r' : RpAll K Z ws ys) : Walks K Z (Itz K q q') (zipD xs ys) where
  stop := fun i H e hi => ⟨vs, ws, e.seq h, e.seq h', by
    have e1 := r.length
    have e2 := r'.length
    rw [zipD_len] at hi
    omega⟩
  go := fun i H e hi => by
    have e1 := r.length
    have e2 := r'.length
    rw [zipD_len] at hi
    exact ⟨vs, ws, vs[i]'(by omega), ws[i]'(by omega), e.seq h, e.seq h', by simp, by simp⟩
  yld := fun i H v H' Zc e1 e2 hi ⟨T, x, y, ev, hT, eh, hv, hw⟩ => by
    subst ev eh
    obtain ⟨d, hd, rd⟩ := r.getV (hv vs ((e1.trans e2).seq h))
    obtain ⟨d', hd', rd'⟩ := r'.getV (hw ws ((e1.trans e2).seq h'))
    exact ⟨_, upd Zc T _, zipD_get hd hd', NewR.tup (xs := [d, d']) e2 hT (by show 2 ≤ 16777216; decide) (.cons (rd.same e1) (.cons (rd'.same e1) .nil))⟩
theorem walks_zipT {q q' : Addr} {vs ws : List V} {xs ys : List D} (h : SqT K Z q vs) (r : RpAll K Z vs xs) (h' : SqT K Z q' ws) (r' : RpAll K Z ws ys) : Walks K Z (RZ.ItzT K q q') (zipD xs ys) where
  stop := fun i H e hi => ⟨vs, ws, same_sqT e h, same_sqT e h', by
    have e1 := r.length
    have e2 := r'.length
    rw [zipD_len] at hi
    omega⟩
  go := fun i H e hi => by
    have e1 := r.length
    have e2 := r'.length
    rw [zipD_len] at hi
    exact ⟨vs, ws, vs[i]'(by omega), ws[i]'(by omega), same_sqT e h, same_sqT e h', by simp, by simp⟩
  yld := fun i H v H' Zc e1 e2 hi ⟨T, x, y, ev, hT, eh, hv, hw⟩ => by
    subst ev eh
    obtain ⟨d, hd, rd⟩ := r.getV (hv vs (same_sqT (e1.trans e2) h))
    obtain ⟨d', hd', rd'⟩ := r'.getV (hw ws (same_sqT (e1.trans e2) h'))
    exact ⟨_, upd Zc T _, zipD_get hd hd', NewR.tup (xs := [d, d']) e2 hT (by show 2 ≤ 16777216; decide) (.cons (rd.same e1) (.cons (rd'.same e1) .nil))⟩
theorem pfi_zip {elts : List Expr} {kk : Nat} {tpos : Pos} (hg : Gl X "zip") (hm : X.mg "zip" = none) (ha : PFA X L [a, b] fr) (hs : starEach [a, b] X.env = (false, eval a X.env) :: starEach [b] X.env := by rfl) (hpl : (backTo pos (starEach [b] X.env)).any (·.1) = false := by rfl) :
    PFI X L (.Tuple elts kk tpos) (.Call (.Name "zip" p) [a, b] [] pos) (iZipS fr) := PI_imp (RZ.pi_zipA hg hm ha hs hpl) fun σ H R ⟨Z, Y, s, Xf, Qf, r, k, xo, h, q⟩ => by
  refine ⟨Z, Y, s, Xf, _, r, k, xo, h, fun vs H1 Z1 rs s1 hz rx hn h1 => ?_⟩
  obtain ⟨Z2, ds, s2, hz2, rx2, h2⟩ := frzAll_ok (us := []) (ds := []) rx rfl h1
  have ra := rx2.rps
  split at h2
  · cases ra with
    | cons r1 r2 =>
      cases r2 with
      | cons r2 r3 =>
        cases r3
        cases r1 with
        | lst hq hl hr =>
          cases r2 with
          | lst hq' hl' hr' => exact ⟨_, _, _, _, rfl, .inl ⟨.inl (same_rd rx2.rel0.zh hq), .inl (same_rd rx2.rel0.zh hq'), q _ H1 Z2 s2 _ (hz.trans hz2) rx2.rel0 (walks_zip (.inl hq) hr (.inl hq') hr') h2⟩⟩
  · cases ra with
    | cons r1 r2 =>
      cases r2 with
      | cons r2 r3 =>
        cases r3
        cases r1 with
        | tup hq hl hr =>
          cases r2 with
          | tup hq' hl' hr' => exact ⟨_, _, _, _, rfl, .inr ⟨tupSq (rx2.rel0.zh _ _ hq), tupSq (rx2.rel0.zh _ _ hq'), q _ H1 Z2 s2 _ (hz.trans hz2) rx2.rel0 (walks_zipT (tupSq hq) hr (tupSq hq') hr') h2⟩⟩
  · exact h2.elim

/-! ### tuple(range(..)), list(range(..)) -/
theorem rg_all {i j : Int} : RpAll K Z (rgV i j) (rangeD i (j - i).toNat) := by
  unfold rgV rangeD
  generalize (j - i).toNat = n
  induction n with
  | zero => exact .nil
  | succ n ih =>
    rw [List.range_succ, List.map_append, List.map_append]
    exact ih.append (.cons (.int _) .nil)
theorem rg_len {i j : Int} (h : RgOk i j) : (rgV i j).length ≤ sizeLine := by
  rw [rgV_length]
  obtain ⟨_, _, _, _, h5⟩ := h
  show _ ≤ 16777216
  omega
theorem okRg {i j : Int} (h1 : RgOk i j) : True := trivial
theorem newT {v : List V} {ds : List D} {σ : St} {H : Hp} {Q : VK} {Z Y : Hp} {s : S} {Qf : R → S → Prop} (r : Rel K Z Y H σ s) (hl : v.length ≤ sizeLine) (ra : RpAll K Z v ds) (h : Qf (.d (.tuple ds)) s)
    (q : ∀ v H' Z' r s', Same Z Z' → RelX K Z' Y H' σ s' [v] [r] → Qf r s' → Q v H') : ∀ p, H p = none → Q (.ref p) (upd H p (.tup v)) := fun p hp => by
  have n : NewR K Z H _ _ (.ref p) (.d (.tuple ds)) := .tup r.zh hp hl ra
  exact q _ _ _ _ s n.hz (r.new n) h
theorem newLs {v : List V} {ds : List D} {σ : St} {H : Hp} {Q : VK} {Z Y : Hp} {s : S} {Qf : R → S → Prop} (r : Rel K Z Y H σ s) (hl : v.length ≤ sizeLine) (ra : RpAll K Z v ds) (h : Qf (.own (.l ds)) s)
    (q : ∀ v H' Z' r s', Same Z Z' → RelX K Z' Y H' σ s' [v] [r] → Qf r s' → Q v H') : ∀ p, H p = none → Q (.ref p) (upd H p (.lst v)) := fun p hp => by
  have n : NewR K Z H _ _ (.ref p) (.own (.l ds)) := .lst r.zh hp hl ra
  exact q _ _ _ _ s n.hz (r.new n) h
theorem pf_tRg1 {p2 pos2 : Pos} (hc : X.calm = true) (hm : X.mg "tuple" = none) (hm2 : X.mg "range" = none) (ha : PF X L a fa) (hg : Gl X "tuple" := by rfl) (hg2 : Gl X "range" := by rfl) (hs : starEach [a] X.env = (false, eval a X.env) :: starEach [] X.env := by rfl)
    (na : starEach [.Call (.Name "range" p2) [a] [] pos2] X.env = (false, eval (.Call (.Name "range" p2) [a] [] pos2) X.env) :: starEach [] X.env := by rfl) : PF X L (.Call (.Name "tuple" p) [.Call (.Name "range" p2) [a] [] pos2] [] pos) (fRg1 mkT fa) :=
  PE_imp (pe_tupRg hc hg hm (prg_1 hg2 hm2 ha hs) na) fun σ H Q ⟨Z, Y, s, Xf, Qf, r, k, xo, h, q⟩ => by
  refine ⟨Z, Y, s, Xf, _, r, k, xo, h, fun v H1 Z1 r1 s1 hz rx h1 => ?_⟩
  split at h1
  · rename_i j
    exact ⟨j, rx.vi, h1.1, newT rx.rel0 (rg_len h1.1) rg_all (by rw [Int.sub_zero]; exact h1.2) fun v H' Z' r s' hz' => q v H' Z' r s' (hz.trans hz')⟩
  · exact h1.elim
theorem pf_lRg1 {p2 pos2 : Pos} (hc : X.calm = true) (hm : X.mg "list" = none) (hm2 : X.mg "range" = none) (ha : PF X L a fa) (hg : Gl X "list" := by rfl) (hg2 : Gl X "range" := by rfl) (hs : starEach [a] X.env = (false, eval a X.env) :: starEach [] X.env := by rfl)
    (na : starEach [.Call (.Name "range" p2) [a] [] pos2] X.env = (false, eval (.Call (.Name "range" p2) [a] [] pos2) X.env) :: starEach [] X.env := by rfl) : PF X L (.Call (.Name "list" p) [.Call (.Name "range" p2) [a] [] pos2] [] pos) (fRg1 mkL fa) :=
  PE_imp (pe_listRg hc hg hm (prg_1 hg2 hm2 ha hs) na) fun σ H Q ⟨Z, Y, s, Xf, Qf, r, k, xo, h, q⟩ => by
  refine ⟨Z, Y, s, Xf, _, r, k, xo, h, fun v H1 Z1 r1 s1 hz rx h1 => ?_⟩
  split at h1
  · rename_i j
    exact ⟨j, rx.vi, h1.1, newLs rx.rel0 (rg_len h1.1) rg_all (by rw [Int.sub_zero]; exact h1.2) fun v H' Z' r s' hz' => q v H' Z' r s' (hz.trans hz')⟩
  · exact h1.elim
theorem pf_tRg2 {p2 pos2 : Pos} (hc : X.calm = true) (hm : X.mg "tuple" = none) (hm2 : X.mg "range" = none) (ha : PF X L a fa) (hb : PF X L b fb) (hg : Gl X "tuple" := by rfl) (hg2 : Gl X "range" := by rfl)
    (hs : starEach [a, b] X.env = (false, eval a X.env) :: starEach [b] X.env := by rfl) (hs2 : starEach [b] X.env = (false, eval b X.env) :: starEach [] X.env := by rfl)
    (hp : (backTo pos2 (starEach [b] X.env)).any (·.1) = false := by rfl)
    (na : starEach [.Call (.Name "range" p2) [a, b] [] pos2] X.env = (false, eval (.Call (.Name "range" p2) [a, b] [] pos2) X.env) :: starEach [] X.env := by rfl) : PF X L (.Call (.Name "tuple" p) [.Call (.Name "range" p2) [a, b] [] pos2] [] pos) (fRg2 mkT fa fb) :=
  PE_imp (pe_tupRg hc hg hm (prg_2 hg2 hm2 ha hb hs hs2 hp) na) fun σ H Q ⟨Z, Y, s, Xf, Qf, r, k, xo, h, q⟩ => by
  refine ⟨Z, Y, s, Xf, _, r, k, xo, h, fun v H1 Z1 r1 s1 hz rx h1 => ?_⟩
  obtain ⟨Y', hy, rl, bk, fw⟩ := rx.frame
  refine ⟨Z1, Y', s1, Xf, _, rl, k, (xo.z hz).mono (Same.refl _) bk, h1, fun w H2 Z2 r2 s2 hz2 rx2 h2 => ?_⟩
  have rx3 := fw Z2 H2 s2 [w] [r2] hz2 rx2
  split at h2
  · rename_i i j
    have ra := RelX.rps (ds := [.int i, .int j]) rx3
    cases ra with
    | cons q1 q2 =>
      cases q2 with
      | cons q2 q3 =>
        cases q1; cases q2
        exact ⟨i, j, rfl, rfl, h2.1, newT rx3.rel0 (rg_len h2.1) rg_all h2.2 fun v H' Z' r s' hz' => q v H' Z' r s' ((hz.trans hz2).trans hz')⟩
  · exact h2.elim

/-! ### xs[::-1] -/
theorem RpAll.rev {vs : List V} {ds : List D} (r : RpAll K Z vs ds) : RpAll K Z vs.reverse ds.reverse := by
  induction vs generalizing ds with
  | nil => cases r; exact .nil
  | cons v vs ih =>
    cases r with
    | cons h t =>
      rw [List.reverse_cons, List.reverse_cons]
      exact (ih t).append (.cons h .nil)
section
variable {prog : Program} {w : World} {A : Around} {E : Value → Shared → Prop} {s : Shared}
theorem adjust_rev (n : Nat) : Builtin.Slice.sliceAdjust none none (-1) (n : Int) = ((n : Int) - 1, -1) := by
  unfold Builtin.Slice.sliceAdjust
  simp
theorem places_rev (n : Nat) : Builtin.Slice.slicePlaces ((n : Int) - 1) (-1) (-1) = n := by
  unfold Builtin.Slice.slicePlaces
  simp
  omega
theorem applied_rev {sl : Addr} {vs : Value} {n : Nat} {Q : Int × Int × Nat → Shared → Prop} (hs : s.heap.IsSliceOf sl .none .none vs) (ps : IsPart vs (some (-1))) (h : Q ((n : Int) - 1, -1, n) s) :
    wpAny (model prog w) A (Builtin.Slice.sliceApplied (.ref sl) (pure (n : Int))) Q E s := by
  obtain ⟨os, hos, hcs, hds⟩ := id hs
  unfold Builtin.Slice.sliceApplied Builtin.Slice.sliceFields
  refine wpAny_bind (wpAny_bind (wpAny_field hos hds (x := .none) rfl ?_))
  refine wpAny_bind (wpAny_field hos hds (x := .none) rfl ?_)
  refine wpAny_bind (wpAny_field hos hds (x := vs) rfl (wpAny_pure ?_))
  refine wpAny_bind (HT.slicePart_ ps ?_)
  show wpAny _ _ (if ((-1 : Int) == 0) = true then _ else _) _ _ s
  rw [if_neg (by decide)]
  refine wpAny_bind (HT.slicePart_ .none ?_)
  refine wpAny_bind (HT.slicePart_ .none ?_)
  refine wpAny_bind (wpAny_pure ?_)
  show wpAny _ _ (match Builtin.Slice.sliceAdjust none none (-1) (n : Int) with | (lo, hi) => pure (lo, (-1 : Int), Builtin.Slice.slicePlaces lo hi (-1))) _ _ s
  rw [adjust_rev]
  show wpAny _ _ (pure ((n : Int) - 1, (-1 : Int), Builtin.Slice.slicePlaces ((n : Int) - 1) (-1) (-1))) _ _ s
  rw [places_rev]
  exact wpAny_pure h
theorem fm_congr {α β : Type} {f g : α → Option β} : ∀ l : List α, (∀ x ∈ l, f x = g x) → l.filterMap f = l.filterMap g
  | [], _ => rfl
  | x :: l, h => by
    rw [List.filterMap_cons, List.filterMap_cons, h x List.mem_cons_self, fm_congr l fun y hy => h y (List.mem_cons_of_mem _ hy)]
theorem pick_rev (xs : Array Value) : ((List.range xs.size).filterMap fun (m : Nat) => xs[(((xs.size : Int) - 1) + (m : Int) * (-1)).toNat]?).toArray = xs.toList.reverse.toArray := by
  congr 1
  have e : ∀ m ∈ List.range xs.size, xs[(((xs.size : Int) - 1) + (m : Int) * (-1)).toNat]? = xs[xs.size - 1 - m]? := fun m hm => by
    have := List.mem_range.mp hm
    rw [show (((xs.size : Int) - 1) + (m : Int) * (-1)).toNat = xs.size - 1 - m by omega]
  rw [fm_congr _ e]
  have e2 : (fun m => xs[xs.size - 1 - m]?) = (fun k => xs[k]?) ∘ fun m => xs.size - 1 - m := rfl
  rw [e2, ← List.filterMap_map, PySem.W.krv_range, List.filterMap_reverse, PySem.W.krv_all]
theorem getItem_rev {t sl : Addr} {items : Array Value} {vs : Value} {Q : Value → Shared → Prop} (ht : IsTup s.heap t items) (hs : s.heap.IsSliceOf sl .none .none vs) (ps : IsPart vs (some (-1)))
    (h : Q (.ref s.heap.objs.size) { s with heap := s.heap.push { cls := .type "tuple", data := .seq items.toList.reverse.toArray } }) (hsz : items.size ≤ sizeLine) : wpAny (model prog w) A (getItem (.ref t) (.ref sl)) Q E s := by
  have fits : sizeOk (.seq items.toList.reverse.toArray) := by
    show items.toList.reverse.toArray.size ≤ sizeLine
    rw [List.size_toArray, List.length_reverse, Array.length_toList]; exact hsz
  obtain ⟨os, hos, hcs, hds⟩ := id hs
  have tyS : s.TypeIs (.ref sl) "slice" := ⟨os, hos, hcs⟩
  unfold getItem
  try with_reducible refine wpAny_holding ?_
  first | refine wpAny_bind (wpAny_pure ?_) | skip
  refine wpAny_bind (wpAny_sequenceKey ht.typeIs (by decide) ?_)
  refine wpAny_bind (wpAny_callSpecial?_slot (name := Str.ofString "__getitem__") ht.typeIs PyProof.Rows.slot_tuple_getitem ?_)
  refine wpAny_call_entry PyProof.Rows.slot_tuple_getitem ht.typeIs entry_tuple_getitem ?_ (args_tuple_getitem _ _)
  show wpAny _ _ (Builtin.Tuple.tupleItemsOf (.ref t) >>= _) _ _ s
  refine wpAny_bind (tupleItemsOf_ ht ?_)
  refine wpAny_bind (wpAny_typeOf tyS ?_)
  rw [if_pos (by decide)]
  refine wpAny_bind (applied_rev hs ps ?_)
  show wpAny _ _ (if (((items.size : Int) - 1) == 0 && (-1 : Int) == 1 && items.size == items.size) = true then _ else _) _ _ s
  rw [if_neg (by simp), pick_rev]
  first
    | exact wpAny_bind (m := Builtin.Tuple.tupleExact _) (wpAny_newObj_type (wpAny_pure ⟨_, rfl, wpAny_pure h⟩) fits)
    | exact wpAny_bind (m := Builtin.Tuple.tupleExact _) (wpAny_newObj_type (wpAny_bind (wpAny_pure (wpAny_pure ⟨_, rfl, wpAny_pure h⟩))) fits)
    | exact wpAny_bind (wpAny_bind (m := Builtin.Tuple.tupleExact _) (wpAny_newObj_type (wpAny_pure (wpAny_pure ⟨_, rfl, wpAny_pure h⟩)) fits))
    | exact wpAny_bind (wpAny_bind (m := Builtin.Tuple.tupleExact _) (wpAny_newObj_type (wpAny_pure ⟨_, rfl, wpAny_pure h⟩) fits))
end
/-- the value at e, then its items turned about -/
theorem pe_rev {te : TE} {k : Nat} {p1 p2 p3 : Pos} (he : PE X e te) : PE X (.Subscript e (.Slice none none (some (.UnaryOp .USub (.Constant (.int 1) k p1) p2)) p3) pos)
    (fun σ H Q => te σ H fun x H1 => ∃ a xs, x = .ref a ∧ ((SqL X.K H1 a xs ∧ ∀ p, H1 p = none → Q (.ref p) (upd H1 p (.lst xs.reverse))) ∨ (SqT X.K H1 a xs ∧ ∀ p, H1 p = none → Q (.ref p) (upd H1 p (.tup xs.reverse))))) := by
  refine ⟨fun pins s σ H Q I h => ?_⟩
  refine Subscript_ (thn (he.run pins s σ H _ I h) fun v s1 ⟨x, H1, I1, r1, q1⟩ => ?_)
  obtain ⟨a, xs, ex, hx⟩ := q1
  subst ex
  cases r1
  have step : PO X (some (.UnaryOp .USub (.Constant (.int 1) k p1) p2)) (tPart (tUn (rU fun i => .int (-i)) (tC (.int 1)))) := po_some (pe_un un_neg pe_int)
  refine wpAny_Slice (thn (po_none.run pins s1 σ H1 (fun o G => o = none ∧ G = H1) I1 ⟨rfl, rfl⟩) ?_)
  rintro vl s2 ⟨l, H2, I2, pl, rfl, rfl⟩
  refine thn (po_none.run pins s2 σ H2 (fun o G => o = none ∧ G = H2) I2 ⟨rfl, rfl⟩) ?_
  rintro vu s3 ⟨u, H3, I3, pu, rfl, rfl⟩
  refine thn (step.run pins s3 σ H3 (fun o G => o = some (-1) ∧ G = H3) I3 ⟨1, rfl, -1, rfl, rfl, rfl⟩) ?_
  rintro vs s4 ⟨o, H4, I4, ps, rfl, rfl⟩
  have I5 : Inv X pins σ H4 { s4 with heap := s4.heap.push { cls := .type "slice", data := .fields #[vl, vu, vs] } } := I4.kept (t' := s4.toks) fun b ob q => Heap.get?_push_of_some _ q
  show wpAny (model X.prog X.w) X.A (subscriptTail e _ (.ref a) (.ref s4.heap.objs.size)) (EP X pins σ Q) X.xe { s4 with heap := s4.heap.push { cls := .type "slice", data := .fields #[vl, vu, vs] } }
  cases pl
  cases pu
  rcases hx with ⟨hx, q⟩ | ⟨hx, q⟩
  · obtain ⟨its, r, ht, hz⟩ := I5.list hx
    have hlen := r.length
    refine tail_any (ops := [.ref a, .ref s4.heap.objs.size]) ht.isList.typeIs (PySem.slot_list_getitem.lookup) ?_ (by with_unfolding_all rfl)
    refine wpAny_getItem_list_slice ht.isList (Heap.IsSliceOf.new _ .none .none vs) .none .none ps (by decide) ?_ (by rw [List.size_toArray]; omega)
    rw [PySem.W.krv_pick]
    refine ⟨.ref _, _, I5.laid (t' := s4.toks) (o := .lst xs.reverse) (fun b ob q => Heap.get?_push_of_some _ q) (Nat.le_refl _) ?_, rfl, q _ (I5.hok.fresh (Nat.le_refl _))⟩
    exact ⟨by rw [List.length_reverse]; exact hz, _, 0, r.reverse, Heap.get?_push_size _ rfl⟩
  · obtain ⟨its, r, ht, hz⟩ := I5.tuple hx
    have hlen := r.length
    refine tail_any (ops := [.ref a, .ref s4.heap.objs.size]) ht.typeIs (PyProof.Rows.slot_tuple_getitem.lookup) ?_ (by with_unfolding_all rfl)
    refine getItem_rev ht (Heap.IsSliceOf.new _ .none .none vs) ps ?_ (by rw [List.size_toArray]; omega)
    refine ⟨.ref _, _, I5.laid (t' := s4.toks) (o := .tup xs.reverse) (fun b ob q => Heap.get?_push_of_some _ q) (Nat.le_refl _) ?_, rfl, q _ (I5.hok.fresh (Nat.le_refl _))⟩
    exact ⟨by rw [List.length_reverse]; exact hz, _, r.reverse, IsTup.new _ _⟩
theorem pf_rev {k : Nat} {p1 p2 p3 : Pos} (he : PF X L e fa) : PF X L (.Subscript e (.Slice none none (some (.UnaryOp .USub (.Constant (.int 1) k p1) p2)) p3) pos) (fUn revD fa) :=
  PE_imp (pe_rev he) fun σ H Q ⟨Z, Y, s, Xf, Qf, r, k, xo, h, q⟩ => by
  refine ⟨Z, Y, s, Xf, _, r, k, xo, h, fun v H1 Z1 r1 s1 hz rx h1 => ?_⟩
  obtain ⟨d, e1, h3⟩ := look_ok h1
  obtain ⟨v', ev, rv⟩ := rx.look (k := 0) rfl e1
  cases ev
  unfold revD at h3
  split at h3
  · obtain ⟨p, vs, rfl, g1, g2, g3⟩ := rv.list rx.rel0.zh
    exact ⟨p, vs, rfl, .inl ⟨.inl g1, newLs rx.rel0 (by rw [List.length_reverse]; exact g2) g3.rev h3 fun v H' Z' r s' hz' => q v H' Z' r s' (hz.trans hz')⟩⟩
  · obtain ⟨p, vs, rfl, g1, g2, g3⟩ := rv.tuple rx.rel0.zh
    exact ⟨p, vs, rfl, .inr ⟨g1, newT rx.rel0 (by rw [List.length_reverse]; exact g2) g3.rev h3 fun v H' Z' r s' hz' => q v H' Z' r s' (hz.trans hz')⟩⟩
  · exact h3.elim

/-! ### sorted -/
/-! ### sorted of a tuple of whole numbers -/
section
variable {prog : Program} {w : World} {A : Around} {E : Value → Shared → Prop} {s : Shared}
theorem collect_tuple {l : Addr} {vs : List Value} {Q : List Value → Shared → Prop} (hl : s.heap.IsTuple l vs.toArray)
    (h : Q vs { s with heap := (s.heap.push (seqObj "list" #[] 0)).update s.heap.objs.size (Obj.mapSeq (· ++ vs.toArray)) }) (hsz : vs.length ≤ sizeLine := by size_fits) :
    wpAny (model prog w) A (collect (.ref l)) Q E s := by
  obtain ⟨o, ho, hc, n, hd⟩ := id hl
  unfold collect
  refine wpAny_bind (wpAny_runValue (codeAny_builtin entry_proto_collect' ?_))
  show wpAny _ _ (do again (.builtin "list.__iadd__" ⟨[← newList [], .ref l], []⟩)) _ _ s
  refine wpAny_bind (wpAny_newList (wpAny_pure ⟨Code.quiet_builtin _ (by decide +kernel), codeAny_builtin entry_list_iadd' ?_⟩))
  show wpAny _ _ (Builtin.List.listExtendWith (.ref s.heap.objs.size) (.ref l) (.ref s.heap.objs.size)) _ _ { s with heap := s.heap.push (seqObj "list" #[] 0) }
  unfold Builtin.List.listExtendWith
  have ho' : (s.heap.push (seqObj "list" #[] 0)).get? l = some o := Heap.get?_push_of_some _ ho
  refine wpAny_bind (wpAny_typeOf (T := "tuple") ⟨o, ho', hc⟩ ?_)
  have ht : (Value.type "tuple" == Value.type "tuple") = true := by rfl
  rw [if_pos (by rw [ht]; simp)]
  refine wpAny_bind (listItems_at ho' hd ?_)
  refine wpAny_bind (listItems_at (xs := #[]) (n := 0) (Heap.get?_push_size _ rfl) rfl ?_)
  rw [if_neg (by simp)]
  refine wpAny_bind (listUpdate_at (xs := #[]) (n := 0) (Heap.get?_push_size _ rfl) rfl ?_ (Nat.zero_le _) (by show (#[] ++ vs.toArray).size ≤ sizeLine + 1; simp only [Array.size_append, List.size_toArray, List.length_nil]; omega))
  refine wpAny_pure ?_
  show wpAny (model prog w) A (do
      let o ← load s.heap.objs.size
      match o.data with
      | .seq xs _ => pure xs.toList
      | _ => unsupported "internal:collect") Q E { s with heap := (s.heap.push (seqObj "list" #[] 0)).update s.heap.objs.size (Obj.mapSeq (· ++ vs.toArray)) }
  refine wpAny_bind (wpAny_load (get?_update_seq (Heap.get?_push_size _ rfl) _) ?_)
  show wpAny _ _ (pure ((#[] : Array Value) ++ vs.toArray).toList) Q E _
  rw [show ((#[] : Array Value) ++ vs.toArray).toList = vs by simp]
  exact wpAny_pure h
theorem sorted_intsTup {l : Addr} {vs : List Value} {ns : List Int} {Q : Value → Shared → Prop} (hl : s.heap.IsTuple l vs.toArray) (hI : IntsAre vs ns) (hL : vs.length ≤ sizeLine)
    (h : ∀ (out : Array Value) (ns' : List Int), IntsAre out.toList ns' → ns'.Perm ns → ns'.Pairwise (· ≤ ·) → Q (.ref (s.heap.objs.size + 1)) { s with heap := sortedAll s.heap vs out }) :
    wpAny (model prog w) A (call (.builtin "sorted") [.ref l]) Q E s := by
  refine Calls.call_function_entry kind_sorted plain_sorted entry_sorted (args_sorted1 _) ?_
  unfold Builtin.«sorted»
  refine wpAny_bind (m := checkCount "sorted" 1 1 _) (wpAny_pure ?_)
  refine wpAny_bind (collect_tuple hl ?_)
  refine wpAny_bind (wpAny_newList ?_)
  have hsz : ((s.heap.push (seqObj "list" #[] 0)).update s.heap.objs.size (Obj.mapSeq (· ++ vs.toArray))).objs.size = s.heap.objs.size + 1 := by
    rw [Heap.size_update, size_push']
  have hoL : (((s.heap.push (seqObj "list" #[] 0)).update s.heap.objs.size (Obj.mapSeq (· ++ vs.toArray))).push (seqObj "list" vs.toArray 0)).get? (s.heap.objs.size + 1) = some (seqObj "list" vs.toArray 0) := by
    rw [← hsz]; exact Heap.get?_push_size _ rfl
  show wpAny _ _ _ _ _ { s with heap := ((s.heap.push (seqObj "list" #[] 0)).update s.heap.objs.size (Obj.mapSeq (· ++ vs.toArray))).push (seqObj "list" vs.toArray 0) }
  rw [hsz]
  refine wpAny_bind (wpAny_holding (wpAny_call_entry slot_list_sort ⟨_, hoL, rfl⟩ entry_list_sort (list_sort_treeAny hoL hI hL fun out ns' a1 a2 a3 => ⟨_, rfl, ?_⟩) (args_list_sort _)))
  exact wpAny_pure ⟨_, rfl, h out ns' a1 a2 a3⟩
end
def rSortedT (K : PySem.W.Frag) : List V → Hp → VK → Prop := fun vs H Q => ∃ (a : Addr) (ns : List Int), vs = [V.ref a] ∧ SqT K H a (ns.map V.int) ∧
  ∀ (ns' : List Int) (p : Addr), ns'.Perm ns → ns'.Pairwise (· ≤ ·) → H p = none → Q (.ref p) (upd H p (.lst (ns'.map V.int)))
theorem cr_sortedT {X : Cx} : CallR X (.builtin "sorted") (rSortedT X.K) := by
  intro pins s σ H vs us Q I r h
  obtain ⟨a, ns, rfl, hs, q⟩ := h
  obtain ⟨its, rv, hl, hz⟩ := I.tuple hs
  rw [Vals.ref1 r]
  have hi := rv.ints
  have hz' : ns.length ≤ sizeLine := by rw [List.length_map] at hz; exact hz
  refine sorted_intsTup hl hi (by rw [hi.length]; exact hz') fun out ns' h1 h2 h3 => ?_
  obtain ⟨ep, he'⟩ := PyProof.Rows.sortedAll_at s.heap its out
  have hlen : (ns'.map V.int).length ≤ sizeLine := by rw [List.length_map, h2.length_eq]; exact hz'
  exact ⟨.ref _, upd H (s.heap.objs.size + 1) (.lst (ns'.map V.int)), I.laid (t' := s.toks) (fun _ _ => PyProof.Rows.sortedAll_old) (Nat.le_succ _) ⟨hlen, out.toList, ep, vals_of_ints h1, he'⟩, rfl, q ns' _ h2 h3 (I.hok.fresh (Nat.le_succ _))⟩
theorem fb_sortI : CallR X (.builtin "sorted") (rFN X.K bSortI) := by
  intro pins s σ H vs us Q I rv ⟨Z, ds, Qf, hz, rr, g, q⟩
  unfold bSortI at g
  split at g
  · split at g
    · rename_i eb
      obtain ⟨v, rfl, r1⟩ := rr.one
      obtain ⟨p, vs, rfl, h1, h2, h3⟩ := r1.list hz
      rw [intsOf_eq eb] at h3
      have h2' := h3.length
      rw [h3.ints] at h1 h2
      refine cr_sortedI pins s σ H _ us Q I rv ⟨p, _, rfl, .inl h1, fun ns' p' hp hs hn => ?_⟩
      exact q _ _ Z _ (.lst hz hn (by rw [List.length_map] at h2 ⊢; rw [hp.length_eq]; exact h2) (RpAll.of_ints ns')) (g ns' hp hs)
    · exact g.elim
  · exact g.elim
/-- an item as a pair -/
def keyV (m : V → Option (Int × Int)) (x : V) : Int × Int := (m x).getD (0, 0)
theorem pairOf_eq {d : D} {p : Int × Int} (h : pairOf d = some p) : d = pairD p := by
  unfold pairOf at h
  split at h
  · cases h; rfl
  · cases h
theorem pairsOf_eq : ∀ {xs : List D} {ps : List (Int × Int)}, pairsOf xs = some ps → xs = ps.map pairD
  | [], ps, h => by cases h; rfl
  | x :: xs, ps, h => by
    have h : (match pairOf x, pairsOf xs with | some p, some ps => some (p :: ps) | _, _ => none) = some ps := h
    cases e : pairOf x with
    | none => rw [e] at h; cases h
    | some p =>
      cases e2 : pairsOf xs with
      | none => rw [e, e2] at h; cases h
      | some qs =>
        rw [e, e2] at h
        cases h
        rw [pairOf_eq e, pairsOf_eq e2]; rfl
theorem rp_pair {v : V} {p : Int × Int} (r : Rp K Z v (pairD p)) : ∃ t, v = .ref t ∧ SqT K Z t [.int p.1, .int p.2] := by
  unfold pairD at r
  cases r with
  | tup h z a =>
    cases a with
    | cons a1 a2 =>
      cases a2 with
      | cons a2 a3 =>
        cases a3; cases a1; cases a2
        exact ⟨_, rfl, tupSq h⟩
open Classical in
/-- which pair stands at an address of the frozen part -/
noncomputable def keyZ (K : PySem.W.Frag) (Z : Hp) (v : V) : Int × Int := if h : ∃ p, Rp K Z v (pairD p) then h.choose else (0, 0)
theorem sorted_pairs {pins : List (Addr × Obj)} {s : Shared} {σ : St} {H : Hp} {q : Addr} {vs : List V} {Q : VK} (k : V → Int × Int) (I : Inv X pins σ H s) (hs : SqL X.K H q vs) (hx : ∀ x ∈ vs, ∃ t, x = V.ref t ∧ SqT X.K H t [.int (k x).1, .int (k x).2])
    (g : ∀ ys p, SrtO.Srtd (ltP k) ys → SrtO.Stb (ltP k) ys vs → H p = none → Q (.ref p) (upd H p (.lst ys))) : wpAny (model X.prog X.w) X.A (call (.builtin "sorted") [.ref q]) (EP X pins σ Q) X.xe s := by
  obtain ⟨its, rv, hl, hz⟩ := I.list hs
  obtain ⟨e1, e2⟩ := refs_back rv fun x m => by
    obtain ⟨t, e, _⟩ := hx x m
    exact ⟨t, e⟩
  have len := rv.length
  refine SrtO.sorted_pairsO (k := fun u => k (backV u)) hl.isList (by rw [← len]; exact hz) ?_ ?_
  · intro v hv
    obtain ⟨t, rfl⟩ := e2 v hv
    have hm : V.ref t ∈ vs := by
      rw [e1]
      exact List.mem_map.mpr ⟨_, hv, rfl⟩
    obtain ⟨t', e, ht⟩ := hx _ hm
    cases e
    obtain ⟨us, ru, ⟨o, ho, hc, n, hd⟩, _⟩ := I.tuple ht
    obtain ⟨u1, u2, rfl, ri, rj⟩ := vals2 ru
    obtain ⟨t1, rfl⟩ := ri
    obtain ⟨t2, rfl⟩ := rj
    exact ⟨t, o, t1, t2, n, rfl, ho, hc, hd⟩
  · intro h' d out h1 h2 kp hd ⟨n, hn⟩
    have back : ∀ u ∈ out, ∃ a, u = Value.ref a := fun u hu => e2 u (h2.perm.mem_iff.mp hu)
    have hb : SrtO.Stb (ltP k) (out.map backV) vs := by
      rw [e1]
      exact SrtO.Stb.map (ltP_swo k) backV h2
    refine ⟨.ref d, upd H d (.lst (out.map backV)), I.laid (t' := s.toks) kp hd ⟨?_, out, n, vals_back back, hn⟩, rfl, g _ d (SrtO.srtd_map h1) hb (I.hok.fresh hd)⟩
    rw [hb.len]
    exact hz
theorem rp_pair_key {v : V} {p : Int × Int} (one : ∀ (t : Addr) (xs ys : List V), SqT K Z t xs → SqT K Z t ys → xs = ys) (r : Rp K Z v (pairD p)) : keyZ K Z v = p := by
  classical
  have h : ∃ p, Rp K Z v (pairD p) := ⟨p, r⟩
  unfold keyZ
  rw [dif_pos h]
  have hc := h.choose_spec
  generalize h.choose = p' at hc
  obtain ⟨t, rfl, h1⟩ := rp_pair r
  obtain ⟨t', e, h2⟩ := rp_pair hc
  cases e
  have : ([.int p.1, .int p.2] : List V) = [.int p'.1, .int p'.2] := one t _ _ h1 h2
  injection this with a1 a2
  injection a2 with a2 _
  injection a1 with a1
  injection a2 with a2
  exact Prod.ext a1.symm a2.symm
theorem fb_sortP : CallR X (.builtin "sorted") (rFN X.K bSortP) := by
  intro pins s σ H vs us Q I rv ⟨Z, ds, Qf, hz, rr, g, q⟩
  unfold bSortP at g
  split at g
  · split at g
    · rename_i eb
      obtain ⟨v, rfl, r1⟩ := rr.one
      obtain ⟨p, vs, rfl, h1, h2, h3⟩ := r1.list hz
      rw [pairsOf_eq eb] at h3
      obtain ⟨u, rfl, ru⟩ := vals1 rv
      cases ru
      have each : ∀ {vs : List V} {ps : List (Int × Int)}, RpAll X.K Z vs (ps.map pairD) → (∀ x ∈ vs, ∃ t, x = V.ref t ∧ SqT X.K H t [.int (keyZ X.K Z x).1, .int (keyZ X.K Z x).2]) ∧ vs.map (keyZ X.K Z) = ps ∧ ∀ x ∈ vs, Rp X.K Z x (pairD (keyZ X.K Z x)) := by
        intro vs
        induction vs with
        | nil =>
          intro ps ra
          cases ps with
          | nil => exact ⟨fun x hx => (nomatch hx), rfl, fun x hx => (nomatch hx)⟩
          | cons p ps => cases ra
        | cons v vs ih =>
          intro ps ra
          cases ps with
          | nil => cases ra
          | cons p ps =>
            cases ra with
            | cons a1 a2 =>
              obtain ⟨i1, i2, i3⟩ := ih a2
              have ek := rp_pair_key (fun t xs ys a b => I.tuple_inj (same_sqT hz a) (same_sqT hz b)) a1
              obtain ⟨t, et, ht⟩ := rp_pair a1
              refine ⟨fun x hx => ?_, by rw [List.map_cons, ek, i2], fun x hx => ?_⟩
              · rcases List.mem_cons.mp hx with rfl | hx
                · exact ⟨t, et, by rw [ek]; exact same_sqT hz ht⟩
                · exact i1 x hx
              · rcases List.mem_cons.mp hx with rfl | hx
                · rw [ek]; exact a1
                · exact i3 x hx
      obtain ⟨i1, i2, i3⟩ := each h3
      refine sorted_pairs (keyZ X.K Z) I (.inl h1) i1 fun ys p' hs hb hn => ?_
      have hp := hb.perm
      have ry : RpAll X.K Z ys ((ys.map (keyZ X.K Z)).map pairD) := by
        have all : ∀ x ∈ ys, Rp X.K Z x (pairD (keyZ X.K Z x)) := fun x hx => i3 x (hp.mem_iff.mp hx)
        clear hs hb hn hp
        induction ys with
        | nil => exact .nil
        | cons y ys ih => exact .cons (all y List.mem_cons_self) (ih fun x hx => all x (List.mem_cons_of_mem _ hx))
      refine q _ _ Z _ (.lst hz hn (by rw [hp.length_eq]; exact h2) ry) (g _ (by rw [← i2]; exact hp.map _) ?_)
      have hs' : ys.Pairwise fun x y => ltP (keyZ X.K Z) y x = false := hs
      rw [List.pairwise_map]
      refine hs'.imp fun {x y} h => ?_
      have h := SrtO.lexB_no.mp h
      unfold ltPr
      simp only [Bool.or_eq_false_iff, Bool.and_eq_false_iff, decide_eq_false_iff_not, beq_eq_false_iff_ne, ne_eq]
      omega
    · exact g.elim
  · exact g.elim
end
end Hs
/-! HsJ: sorted of tuples of ints, of any lengths. -/
namespace Hs
open PySem PySem.Spec PyProof.Rows L2
/-- the order of tuples of ints -/
def lexL : List Int → List Int → Bool
  | [], [] => false
  | [], _ :: _ => true
  | _ :: _, [] => false
  | a :: as, b :: bs => if a = b then lexL as bs else decide (a < b)
theorem lexL_cons {a b : Int} {as bs : List Int} : lexL (a :: as) (b :: bs) = if a = b then lexL as bs else decide (a < b) := rfl
theorem lexL_asym : ∀ {as bs : List Int}, lexL as bs = true → lexL bs as = false
  | [], [], h => by cases h
  | [], _ :: _, _ => rfl
  | _ :: _, [], h => by cases h
  | a :: as, b :: bs, h => by
    rw [lexL_cons] at h ⊢
    by_cases e : a = b
    · rw [if_pos e] at h
      rw [if_pos e.symm]
      exact lexL_asym h
    · rw [if_neg e] at h
      rw [if_neg (Ne.symm e)]
      have := of_decide_eq_true h
      exact decide_eq_false (by omega)
theorem lexL_tr : ∀ {as bs cs : List Int}, lexL as bs = false → lexL bs cs = false → lexL as cs = false
  | [], [], _, _, h => h
  | [], _ :: _, _, h, _ => by cases h
  | _ :: _, [], [], _, _ => rfl
  | _ :: _, [], _ :: _, _, h => by cases h
  | _ :: _, _ :: _, [], _, _ => rfl
  | a :: as, b :: bs, c :: cs, h1, h2 => by
    rw [lexL_cons] at h1 h2 ⊢
    by_cases e1 : a = b
    · rw [if_pos e1] at h1
      subst e1
      by_cases e2 : a = c
      · rw [if_pos e2] at h2 ⊢
        exact lexL_tr h1 h2
      · rw [if_neg e2] at h2 ⊢
        exact h2
    · rw [if_neg e1] at h1
      have l1 := of_decide_eq_false h1
      by_cases e2 : b = c
      · subst e2
        rw [if_neg e1]
        exact h1
      · rw [if_neg e2] at h2
        have l2 := of_decide_eq_false h2
        rw [if_neg (by omega)]
        exact decide_eq_false (by omega)
theorem lexL_eq : ∀ {as bs : List Int}, lexL as bs = false → lexL bs as = false → as = bs
  | [], [], _, _ => rfl
  | [], _ :: _, h, _ => by cases h
  | _ :: _, [], _, h => by cases h
  | a :: as, b :: bs, h1, h2 => by
    rw [lexL_cons] at h1 h2
    by_cases e : a = b
    · rw [if_pos e] at h1
      rw [if_pos e.symm] at h2
      rw [e, lexL_eq h1 h2]
    · rw [if_neg e] at h1
      rw [if_neg (Ne.symm e)] at h2
      have := of_decide_eq_false h1
      have := of_decide_eq_false h2
      omega
theorem lexL_swo {α : Type} (k : α → List Int) : SrtO.Swo fun v u => lexL (k v) (k u) := ⟨fun x y h => lexL_asym h, fun x y z h1 h2 => lexL_tr h2 h1⟩
section
variable {prog : Program} {w : World} {A : Around} {E : Value → Shared → Prop} {s : Shared}
def IsTupI (h : Heap) (v : Value) (ns : List Int) : Prop := ∃ a o us n, v = .ref a ∧ h.get? a = some o ∧ o.cls = .type "tuple" ∧ o.data = .seq (List.toArray us) n ∧ IntsAre us ns
theorem IsTupI.keeps {h h' : Heap} {v : Value} {ns : List Int} (p : IsTupI h v ns) (k : ∀ b o, h.get? b = some o → o.cls = .type "tuple" → h'.get? b = some o) : IsTupI h' v ns := by
  obtain ⟨a, o, us, n, e, ho, hc, hd, hi⟩ := p
  exact ⟨a, o, us, n, e, k _ _ ho hc, hc, hd, hi⟩
theorem kat_tups {fin : Bool} : ∀ {xs ys : List Value} {ns ms : List Int} (i : Nat), IntsAre xs ns → IntsAre ys ms → fin = decide (ns.length < ms.length) →
    PySem.W.KatLex prog w A true fin (fun r s' => s' = s ∧ r = lexL ns ms) (xs.zip ys) i s
  | _, _, _, _, _, .nil, .nil, e => PySem.W.kat_nil ⟨rfl, e⟩
  | _, _, _, _, _, .nil, .cons _ _ _, e => PySem.W.kat_nil ⟨rfl, by rw [e]; exact decide_eq_true (by simp)⟩
  | _, _, _, _, _, .cons _ _ _, .nil, e => PySem.W.kat_nil ⟨rfl, by rw [e]; exact decide_eq_false (by simp)⟩
  | _, _, _, _, i, .cons x t hx, .cons y u hy, e => by
    refine PySem.W.kat_cons (SeqAt.EqAt.int_int x t y u prog w _ _ ?_)
    rw [lexL_cons]
    refine PySem.W.kat_go (fun e1 => ?_) (fun e1 => ?_)
    · have ex : x = y := by simpa using e1
      rw [if_pos ex]
      exact PySem.W.kat_yes (kat_tups (i + 1) hx hy (by rw [e]; simp))
    · have ex : ¬ x = y := by simpa using e1
      rw [if_neg ex]
      exact PySem.W.kat_no (TS.oneLt_ints _ ⟨rfl, rfl⟩)
theorem tup_cmp {vs : List Value} {k : Value → List Int} (hp : ∀ v ∈ vs, IsTupI s.heap v (k v)) : SrtO.Cmp prog w A s (tuples' true) (fun p => p.1 ∈ vs) (SrtO.lt2 fun v u => lexL (k v) (k u)) := by
  intro p q hm hm'
  obtain ⟨a, o, us, n, e, ho, hc, hd, hi⟩ := hp _ hm
  obtain ⟨a', o', us', n', e', ho', hc', hd', hi'⟩ := hp _ hm'
  show wpAny (model prog w) A (keyLt' (tuples' true) p.1 q.1) (fun r s' => s' = s ∧ r = lexL (k p.1) (k q.1)) (fun _ _ => False) s
  generalize k p.1 = ns at hi ⊢
  generalize k q.1 = ms at hi' ⊢
  rw [e, e']
  refine PySem.W.kat_lt ho hd ho' hd' ?_
  exact kat_tups 0 hi hi' (by rw [List.size_toArray, List.size_toArray, hi.length, hi'.length])
theorem firstsT {h : Heap} : ∀ {vs : List Value} {k : Value → List Int}, (∀ v ∈ vs, IsTupI h v (k v) ∧ k v ≠ []) → ∃ fs : List Value, PySem.W.KatTups h vs fs ∧ fs.length = vs.length ∧ ∀ f ∈ fs, ∃ x t, f = Value.int x t
  | [], _, _ => ⟨[], PySem.W.KatTups.nil, rfl, fun _ hm => by simp at hm⟩
  | v :: vs, k, hp => by
    obtain ⟨fs, h1, h2, h3⟩ := firstsT (vs := vs) fun v' hm => hp v' (List.mem_cons_of_mem _ hm)
    obtain ⟨⟨a, o, us, n, e, ho, hc, hd, hi⟩, hne⟩ := hp v (List.mem_cons_self ..)
    generalize k v = ns at hi hne
    subst e
    cases hi with
    | nil => exact (hne rfl).elim
    | cons x t hi =>
      refine ⟨.int x t :: fs, PySem.W.KatTups.cons ho hc hd rfl h1, by rw [List.length_cons, List.length_cons, h2], fun f hm => ?_⟩
      rcases List.mem_cons.mp hm with rfl | hm
      · exact ⟨x, t, rfl⟩
      · exact h3 f hm
theorem tups_sortableO {a : Addr} {vs : List Value} {k : Value → List Int} (h0 : 0 < vs.length) (hp : ∀ v ∈ vs, IsTupI s.heap v (k v) ∧ k v ≠ []) (ha : ∀ o, s.heap.get? a = some o → o.cls ≠ .type "tuple") : SrtO.SortableO prog w A s a vs fun v u => lexL (k v) (k u) := by
  intro h' keep
  have hp' : ∀ v ∈ vs, IsTupI h' v (k v) ∧ k v ≠ [] := fun v hm => ⟨(hp v hm).1.keeps fun b o e c => keep b o (fun z => by subst z; exact ha o e c) e, (hp v hm).2⟩
  obtain ⟨fs, h1, h2, h3⟩ := firstsT hp'
  refine ⟨tuples' true, fun Q E hq => ?_, tup_cmp fun v hv => (hp' v hv).1⟩
  refine PySem.W.kat_kind (T := .type "int") h1 (by omega) (fun f hm => ?_) (by rfl) ?_
  · obtain ⟨x, t, rfl⟩ := h3 f hm
    exact PySem.W.Looks.now
  · have e : (Value.type "int" != Value.type "tuple") = true := by first | decide +kernel | rfl | decide
    rw [e]
    exact hq
theorem sorted_tupsO {l : Addr} {vs : List Value} {k : Value → List Int} {Q : Value → Shared → Prop} (hl : s.heap.IsList l vs.toArray) (hz : vs.length ≤ sizeLine) (hp : ∀ v ∈ vs, IsTupI s.heap v (k v)) (hne : 2 ≤ vs.length → ∀ v ∈ vs, k v ≠ [])
    (h : ∀ (h' : Heap) (d : Addr) (out : List Value), SrtO.Srtd (fun v u => lexL (k v) (k u)) out → SrtO.Stb (fun v u => lexL (k v) (k u)) out vs → (∀ b o, s.heap.get? b = some o → h'.get? b = some o) → s.heap.objs.size ≤ d → (∃ n, h'.get? d = some (seqObj "list" out.toArray n)) → Q (.ref d) { s with heap := h' }) :
    wpAny (model prog w) A (call (.builtin "sorted") [.ref l]) Q E s := by
  refine SrtO.sorted_ord (lexL_swo k) hl hz (fun h2 h₁ a ha kk => ?_) fun out hs hb => ?_
  · refine tups_sortableO (s := { s with heap := h₁ }) (by omega) (fun v hm => ⟨(hp v hm).keeps fun b o e _ => (kk b o e).2, hne h2 v hm⟩) fun o e => ?_
    have e' : some o = some (seqObj "list" vs.toArray 0) := e.symm.trans ha
    cases e'
    intro c
    exact absurd (Value.type.inj c) (by decide)
  · exact h _ _ out hs hb (fun b o e => sortedAll_old e) (Nat.le_succ _) (sortedAll_at s.heap vs out.toArray)
end
section
variable {X : Cx}
theorem sorted_tups {pins : List (Addr × Obj)} {s : Shared} {σ : St} {H : Hp} {q : Addr} {vs : List V} {Q : VK} (k : V → List Int) (I : Inv X pins σ H s) (hs : SqL X.K H q vs) (hx : ∀ x ∈ vs, ∃ t, x = V.ref t ∧ SqT X.K H t ((k x).map V.int)) (hne : 2 ≤ vs.length → ∀ x ∈ vs, k x ≠ [])
    (g : ∀ ys p, SrtO.Srtd (fun x y => lexL (k x) (k y)) ys → SrtO.Stb (fun x y => lexL (k x) (k y)) ys vs → H p = none → Q (.ref p) (upd H p (.lst ys))) : wpAny (model X.prog X.w) X.A (call (.builtin "sorted") [.ref q]) (EP X pins σ Q) X.xe s := by
  obtain ⟨its, rv, hl, hz⟩ := I.list hs
  obtain ⟨e1, e2⟩ := refs_back rv fun x m => by
    obtain ⟨t, e, _⟩ := hx x m
    exact ⟨t, e⟩
  have len := rv.length
  have mem : ∀ v ∈ its, backV v ∈ vs := fun v hv => by
    rw [e1]
    exact List.mem_map.mpr ⟨_, hv, rfl⟩
  refine sorted_tupsO (k := fun u => k (backV u)) hl.isList (by rw [← len]; exact hz) ?_ (fun h2 v hv => hne (by rw [len]; exact h2) _ (mem v hv)) ?_
  · intro v hv
    have hm := mem v hv
    obtain ⟨t, rfl⟩ := e2 v hv
    obtain ⟨t', e, ht⟩ := hx _ hm
    have et : t' = t := by
      have : V.ref t = V.ref t' := e
      cases this; rfl
    subst et
    obtain ⟨us, ru, ⟨o, ho, hc, n, hd⟩, _⟩ := I.tuple ht
    exact ⟨t', o, us, n, rfl, ho, hc, hd, ints_of_vals ru⟩
  · intro h' d out h1 h2 kp hd ⟨n, hn⟩
    have back : ∀ u ∈ out, ∃ a, u = Value.ref a := fun u hu => e2 u (h2.perm.mem_iff.mp hu)
    have hb : SrtO.Stb (fun x y => lexL (k x) (k y)) (out.map backV) vs := by
      rw [e1]
      exact SrtO.Stb.map (lexL_swo k) backV h2
    refine ⟨.ref d, upd H d (.lst (out.map backV)), I.laid (t' := s.toks) kp hd ⟨?_, out, n, vals_back back, hn⟩, rfl, g _ d (SrtO.srtd_map h1) hb (I.hok.fresh hd)⟩
    rw [hb.len]
    exact hz
/-- items as tuples of ints -/
def tupI (ns : List Int) : D := .tuple (ns.map .int)
def tupOf : D → Option (List Int)
  | .tuple xs => intsOf xs
  | _ => none
def tupsOf : List D → Option (List (List Int))
  | [] => some []
  | x :: xs => match tupOf x, tupsOf xs with
    | some n, some ns => some (n :: ns)
    | _, _ => none
def bSortT : VN := fun ds Q => match ds with
  | [.list xs] => match tupsOf xs with
    | some nss => (2 ≤ nss.length → ∀ ns ∈ nss, ns ≠ []) ∧ ∀ mss : List (List Int), mss.Perm nss → mss.Pairwise (fun a b => lexL b a = false) → Q (.own (.l (mss.map tupI)))
    | none => False
  | _ => False
theorem tupOf_eq {d : D} {ns : List Int} (h : tupOf d = some ns) : d = tupI ns := by
  cases d with
  | tuple xs => rw [intsOf_eq (show intsOf xs = some ns from h)]; rfl
  | _ => cases h
theorem tupsOf_eq : ∀ {xs : List D} {nss : List (List Int)}, tupsOf xs = some nss → xs = nss.map tupI
  | [], nss, h => by cases h; rfl
  | x :: xs, nss, h => by
    have h : (match tupOf x, tupsOf xs with | some n, some ns => some (n :: ns) | _, _ => none) = some nss := h
    cases e : tupOf x with
    | none => rw [e] at h; cases h
    | some p =>
      cases e2 : tupsOf xs with
      | none => rw [e, e2] at h; cases h
      | some qs =>
        rw [e, e2] at h
        cases h
        rw [tupOf_eq e, tupsOf_eq e2]; rfl
/-! ### sorted of a tuple of pairs -/
section
variable {prog : Program} {w : World} {A : Around} {E : Value → Shared → Prop} {s : Shared}
open SrtO in
theorem sorted_ordT {l : Addr} {vs : List Value} {ltv : Value → Value → Bool} {Q : Value → Shared → Prop} (O : Swo ltv) (hl : s.heap.IsTuple l vs.toArray) (hz : vs.length ≤ sizeLine)
    (hS : 2 ≤ vs.length → ∀ (h₁ : Heap) (a : Addr), h₁.get? a = some (seqObj "list" vs.toArray 0) → (∀ b o, s.heap.get? b = some o → b ≠ a ∧ h₁.get? b = some o) → SortableO prog w A.in1.in1 { s with heap := h₁ } a vs ltv)
    (h : ∀ out : List Value, Srtd ltv out → Stb ltv out vs → Q (.ref (s.heap.objs.size + 1)) { s with heap := sortedAll s.heap vs out.toArray }) :
    wpAny (model prog w) A (call (.builtin "sorted") [.ref l]) Q E s := by
  refine Calls.call_function_entry kind_sorted plain_sorted entry_sorted (args_sorted1 _) ?_
  unfold Builtin.«sorted»
  refine wpAny_bind (m := checkCount "sorted" 1 1 _) (wpAny_pure ?_)
  refine wpAny_bind (collect_tuple hl ?_ hz)
  refine wpAny_bind (wpAny_newList ?_ hz)
  have hsz : ((s.heap.push (seqObj "list" #[] 0)).update s.heap.objs.size (Obj.mapSeq (· ++ vs.toArray))).objs.size = s.heap.objs.size + 1 := by
    rw [Heap.size_update, size_push']
  have hoL : (((s.heap.push (seqObj "list" #[] 0)).update s.heap.objs.size (Obj.mapSeq (· ++ vs.toArray))).push (seqObj "list" vs.toArray 0)).get? (s.heap.objs.size + 1) = some (seqObj "list" vs.toArray 0) := by
    rw [← hsz]; exact Heap.get?_push_size _ rfl
  have keep : ∀ b o, s.heap.get? b = some o → b ≠ s.heap.objs.size + 1 ∧ (((s.heap.push (seqObj "list" #[] 0)).update s.heap.objs.size (Obj.mapSeq (· ++ vs.toArray))).push (seqObj "list" vs.toArray 0)).get? b = some o := fun b o q => by
    have hlt : b < s.heap.objs.size := Heap.lt_size q
    refine ⟨Nat.ne_of_lt (Nat.lt_succ_of_lt hlt), Heap.get?_push_of_some _ ?_⟩
    rw [Heap.get?_update_ne _ _ _ _ (Nat.ne_of_lt hlt)]
    exact Heap.get?_push_of_some _ q
  show wpAny _ _ _ _ _ { s with heap := ((s.heap.push (seqObj "list" #[] 0)).update s.heap.objs.size (Obj.mapSeq (· ++ vs.toArray))).push (seqObj "list" vs.toArray 0) }
  rw [hsz]
  refine wpAny_bind (wpAny_holding (wpAny_call_entry slot_list_sort ⟨_, hoL, rfl⟩ entry_list_sort (list_sort_ord O hoL hz (fun h2 => hS h2 _ _ hoL keep) fun out hs hb => ⟨_, rfl, ?_⟩) (args_list_sort _)))
  exact wpAny_pure ⟨_, rfl, h out hs hb⟩
open SrtO in
theorem sorted_pairsOT {l : Addr} {vs : List Value} {k : Value → Int × Int} {Q : Value → Shared → Prop} (hl : s.heap.IsTuple l vs.toArray) (hz : vs.length ≤ sizeLine) (hp : ∀ v ∈ vs, Srt.IsPair s.heap v (k v).1 (k v).2)
    (h : ∀ (h' : Heap) (d : Addr) (out : List Value), Srtd (fun v u => lexB (k v) (k u)) out → Stb (fun v u => lexB (k v) (k u)) out vs → (∀ b o, s.heap.get? b = some o → h'.get? b = some o) → s.heap.objs.size ≤ d → (∃ n, h'.get? d = some (seqObj "list" out.toArray n)) → Q (.ref d) { s with heap := h' }) :
    wpAny (model prog w) A (call (.builtin "sorted") [.ref l]) Q E s := by
  refine sorted_ordT (swo_lex k) hl hz (fun h2 h₁ a ha kk => ?_) fun out hs hb => ?_
  · refine pairs_sortableO (s := { s with heap := h₁ }) (by omega) (fun v hm => (hp v hm).keeps fun b o e _ => (kk b o e).2) fun o e => ?_
    have e' : some o = some (seqObj "list" vs.toArray 0) := e.symm.trans ha
    cases e'
    intro c
    exact absurd (Value.type.inj c) (by decide)
  · exact h _ _ out hs hb (fun b o e => sortedAll_old e) (Nat.le_succ _) (sortedAll_at s.heap vs out.toArray)
end
def bSortPT : VN := fun ds Q => match ds with
  | [.tuple xs] => match pairsOf xs with
    | some ps => ∀ qs : List (Int × Int), qs.Perm ps → qs.Pairwise (fun p q => ltPr q p = false) → Q (.own (.l (qs.map pairD)))
    | none => False
  | _ => False
section
variable {K : PySem.W.Frag} {Z : Hp} {X : Cx}
theorem sorted_pairsT {pins : List (Addr × Obj)} {s : Shared} {σ : St} {H : Hp} {q : Addr} {vs : List V} {Q : VK} (k : V → Int × Int) (I : Inv X pins σ H s) (hs : SqT X.K H q vs) (hx : ∀ x ∈ vs, ∃ t, x = V.ref t ∧ SqT X.K H t [.int (k x).1, .int (k x).2])
    (g : ∀ ys p, SrtO.Srtd (ltP k) ys → SrtO.Stb (ltP k) ys vs → H p = none → Q (.ref p) (upd H p (.lst ys))) : wpAny (model X.prog X.w) X.A (call (.builtin "sorted") [.ref q]) (EP X pins σ Q) X.xe s := by
  obtain ⟨its, rv, hl, hz⟩ := I.tuple hs
  obtain ⟨e1, e2⟩ := refs_back rv fun x m => by
    obtain ⟨t, e, _⟩ := hx x m
    exact ⟨t, e⟩
  have len := rv.length
  refine sorted_pairsOT (k := fun u => k (backV u)) hl (by rw [← len]; exact hz) ?_ ?_
  · intro v hv
    obtain ⟨t, rfl⟩ := e2 v hv
    have hm : V.ref t ∈ vs := by
      rw [e1]
      exact List.mem_map.mpr ⟨_, hv, rfl⟩
    obtain ⟨t', e, ht⟩ := hx _ hm
    cases e
    obtain ⟨us, ru, ⟨o, ho, hc, n, hd⟩, _⟩ := I.tuple ht
    obtain ⟨u1, u2, rfl, ri, rj⟩ := vals2 ru
    obtain ⟨t1, rfl⟩ := ri
    obtain ⟨t2, rfl⟩ := rj
    exact ⟨t, o, t1, t2, n, rfl, ho, hc, hd⟩
  · intro h' d out h1 h2 kp hd ⟨n, hn⟩
    have back : ∀ u ∈ out, ∃ a, u = Value.ref a := fun u hu => e2 u (h2.perm.mem_iff.mp hu)
    have hb : SrtO.Stb (ltP k) (out.map backV) vs := by
      rw [e1]
      exact SrtO.Stb.map (ltP_swo k) backV h2
    refine ⟨.ref d, upd H d (.lst (out.map backV)), I.laid (t' := s.toks) kp hd ⟨?_, out, n, vals_back back, hn⟩, rfl, g _ d (SrtO.srtd_map h1) hb (I.hok.fresh hd)⟩
    rw [hb.len]
    exact hz
theorem fb_sortPT : CallR X (.builtin "sorted") (rFN X.K bSortPT) := by
  intro pins s σ H vs us Q I rv ⟨Z, ds, Qf, hz, rr, g, q⟩
  unfold bSortPT at g
  split at g
  · split at g
    · rename_i eb
      obtain ⟨v, rfl, r1⟩ := rr.one
      obtain ⟨p, vs, rfl, h1, h2, h3⟩ := r1.tuple hz
      rw [pairsOf_eq eb] at h3
      obtain ⟨u, rfl, ru⟩ := vals1 rv
      cases ru
      have each : ∀ {vs : List V} {ps : List (Int × Int)}, RpAll X.K Z vs (ps.map pairD) → (∀ x ∈ vs, ∃ t, x = V.ref t ∧ SqT X.K H t [.int (keyZ X.K Z x).1, .int (keyZ X.K Z x).2]) ∧ vs.map (keyZ X.K Z) = ps ∧ ∀ x ∈ vs, Rp X.K Z x (pairD (keyZ X.K Z x)) := by
        intro vs
        induction vs with
        | nil =>
          intro ps ra
          cases ps with
          | nil => exact ⟨fun x hx => (nomatch hx), rfl, fun x hx => (nomatch hx)⟩
          | cons p ps => cases ra
        | cons v vs ih =>
          intro ps ra
          cases ps with
          | nil => cases ra
          | cons p ps =>
            cases ra with
            | cons a1 a2 =>
              obtain ⟨i1, i2, i3⟩ := ih a2
              have ek := rp_pair_key (fun t xs ys a b => I.tuple_inj (same_sqT hz a) (same_sqT hz b)) a1
              obtain ⟨t, et, ht⟩ := rp_pair a1
              refine ⟨fun x hx => ?_, by rw [List.map_cons, ek, i2], fun x hx => ?_⟩
              · rcases List.mem_cons.mp hx with rfl | hx
                · exact ⟨t, et, by rw [ek]; exact same_sqT hz ht⟩
                · exact i1 x hx
              · rcases List.mem_cons.mp hx with rfl | hx
                · rw [ek]; exact a1
                · exact i3 x hx
      obtain ⟨i1, i2, i3⟩ := each h3
      refine sorted_pairsT (keyZ X.K Z) I h1 i1 fun ys p' hs hb hn => ?_
      have hp := hb.perm
      have ry : RpAll X.K Z ys ((ys.map (keyZ X.K Z)).map pairD) := by
        have all : ∀ x ∈ ys, Rp X.K Z x (pairD (keyZ X.K Z x)) := fun x hx => i3 x (hp.mem_iff.mp hx)
        clear hs hb hn hp
        induction ys with
        | nil => exact .nil
        | cons y ys ih => exact .cons (all y List.mem_cons_self) (ih fun x hx => all x (List.mem_cons_of_mem _ hx))
      refine q _ _ Z _ (.lst hz hn (by rw [hp.length_eq]; exact h2) ry) (g _ (by rw [← i2]; exact hp.map _) ?_)
      have hs' : ys.Pairwise fun x y => ltP (keyZ X.K Z) y x = false := hs
      rw [List.pairwise_map]
      refine hs'.imp fun {x y} h => ?_
      have h := SrtO.lexB_no.mp h
      unfold ltPr
      simp only [Bool.or_eq_false_iff, Bool.and_eq_false_iff, decide_eq_false_iff_not, beq_eq_false_iff_ne, ne_eq]
      omega
    · exact g.elim
  · exact g.elim
end
section
variable {K : PySem.W.Frag} {Z : Hp}
theorem rp_tupI {v : V} {ns : List Int} (r : Rp K Z v (tupI ns)) : ∃ t, v = .ref t ∧ SqT K Z t (ns.map V.int) := by
  unfold tupI at r
  cases r with
  | tup h z a =>
    rw [a.ints] at h
    exact ⟨_, rfl, tupSq h⟩
open Classical in
noncomputable def keyT (K : PySem.W.Frag) (Z : Hp) (v : V) : List Int := if h : ∃ ns, Rp K Z v (tupI ns) then h.choose else []
theorem map_int_inj : ∀ {ns ms : List Int}, ns.map V.int = ms.map V.int → ns = ms
  | [], [], _ => rfl
  | [], _ :: _, h => by cases h
  | _ :: _, [], h => by cases h
  | n :: ns, m :: ms, h => by
    rw [List.map_cons, List.map_cons] at h
    injection h with h1 h2
    injection h1 with h1
    rw [h1, map_int_inj h2]
theorem rp_tupI_key {v : V} {ns : List Int} (one : ∀ (t : Addr) (xs ys : List V), SqT K Z t xs → SqT K Z t ys → xs = ys) (r : Rp K Z v (tupI ns)) : keyT K Z v = ns := by
  classical
  have h : ∃ p, Rp K Z v (tupI p) := ⟨ns, r⟩
  unfold keyT
  rw [dif_pos h]
  have hc := h.choose_spec
  generalize h.choose = p' at hc
  obtain ⟨t, rfl, h1⟩ := rp_tupI r
  obtain ⟨t', e, h2⟩ := rp_tupI hc
  cases e
  exact map_int_inj (one t _ _ h2 h1)
end
theorem fb_sortT : CallR X (.builtin "sorted") (rFN X.K bSortT) := by
  intro pins s σ H vs us Q I rv ⟨Z, ds, Qf, hz, rr, g, q⟩
  unfold bSortT at g
  split at g
  · split at g
    · rename_i eb
      obtain ⟨v, rfl, r1⟩ := rr.one
      obtain ⟨p, vs, rfl, h1, h2, h3⟩ := r1.list hz
      rw [tupsOf_eq eb] at h3
      obtain ⟨u, rfl, ru⟩ := vals1 rv
      cases ru
      have each : ∀ {vs : List V} {ps : List (List Int)}, RpAll X.K Z vs (ps.map tupI) → (∀ x ∈ vs, ∃ t, x = V.ref t ∧ SqT X.K H t ((keyT X.K Z x).map V.int)) ∧ vs.map (keyT X.K Z) = ps ∧ ∀ x ∈ vs, Rp X.K Z x (tupI (keyT X.K Z x)) := by
        intro vs
        induction vs with
        | nil =>
          intro ps ra
          cases ps with
          | nil => exact ⟨fun x hx => (nomatch hx), rfl, fun x hx => (nomatch hx)⟩
          | cons p ps => cases ra
        | cons v vs ih =>
          intro ps ra
          cases ps with
          | nil => cases ra
          | cons p ps =>
            cases ra with
            | cons a1 a2 =>
              obtain ⟨i1, i2, i3⟩ := ih a2
              have ek := rp_tupI_key (fun t xs ys a b => I.tuple_inj (same_sqT hz a) (same_sqT hz b)) a1
              obtain ⟨t, et, ht⟩ := rp_tupI a1
              refine ⟨fun x hx => ?_, by rw [List.map_cons, ek, i2], fun x hx => ?_⟩
              · rcases List.mem_cons.mp hx with rfl | hx
                · exact ⟨t, et, by rw [ek]; exact same_sqT hz ht⟩
                · exact i1 x hx
              · rcases List.mem_cons.mp hx with rfl | hx
                · rw [ek]; exact a1
                · exact i3 x hx
      obtain ⟨i1, i2, i3⟩ := each h3
      have hlen := congrArg List.length i2
      rw [List.length_map] at hlen
      refine sorted_tups (keyT X.K Z) I (.inl h1) i1 (fun h2 x hx => g.1 (by rw [← hlen]; exact h2) _ (by rw [← i2]; exact List.mem_map.mpr ⟨x, hx, rfl⟩)) fun ys p' hs hb hn => ?_
      have hp := hb.perm
      have ry : RpAll X.K Z ys ((ys.map (keyT X.K Z)).map tupI) := by
        have all : ∀ x ∈ ys, Rp X.K Z x (tupI (keyT X.K Z x)) := fun x hx => i3 x (hp.mem_iff.mp hx)
        clear hs hb hn hp
        induction ys with
        | nil => exact .nil
        | cons y ys ih => exact .cons (all y List.mem_cons_self) (ih fun x hx => all x (List.mem_cons_of_mem _ hx))
      refine q _ _ Z _ (.lst hz hn (by rw [hp.length_eq]; exact h2) ry) (g.2 _ (by rw [← i2]; exact hp.map _) ?_)
      rw [List.pairwise_map]
      exact hs
    · exact g.elim
  · exact g.elim
/-- sorted, by what stands in the list -/

def bSorted : VN := fun ds Q => match ds with
  | [.list xs] => match intsOf xs with
    | some _ => bSortI [.list xs] Q
    | none => match pairsOf xs with
      | some _ => bSortP [.list xs] Q
      | none => bSortT [.list xs] Q
  | [.tuple xs] => match intsOf xs with
    | some ns => ∀ ms : List Int, ms.Perm ns → ms.Pairwise (· ≤ ·) → Q (.own (.l (ms.map .int)))
    | none => bSortPT [.tuple xs] Q
  | _ => False
theorem fb_sorted : CallR X (.builtin "sorted") (rFN X.K bSorted) := by
  intro pins s σ H vs us Q I rv ⟨Z, ds, Qf, hz, rr, g, q⟩
  unfold bSorted at g
  split at g
  · split at g
    · exact fb_sortI pins s σ H vs us Q I rv ⟨Z, _, Qf, hz, rr, g, q⟩
    · split at g
      · exact fb_sortP pins s σ H vs us Q I rv ⟨Z, _, Qf, hz, rr, g, q⟩
      · exact fb_sortT pins s σ H vs us Q I rv ⟨Z, _, Qf, hz, rr, g, q⟩
  · split at g
    · rename_i eb
      obtain ⟨v, rfl, r1⟩ := rr.one
      obtain ⟨p, vs, rfl, h1, h2, h3⟩ := r1.tuple hz
      rw [intsOf_eq eb] at h3
      rw [h3.ints] at h1 h2
      refine cr_sortedT pins s σ H _ us Q I rv ⟨p, _, rfl, h1, fun ns' p' hp hs hn => ?_⟩
      exact q _ _ Z _ (.lst hz hn (by rw [List.length_map] at h2 ⊢; rw [hp.length_eq]; exact h2) (RpAll.of_ints ns')) (g ns' hp hs)
    · exact fb_sortPT pins s σ H vs us Q I rv ⟨Z, _, Qf, hz, rr, g, q⟩
  · exact g.elim
end
end Hs
/-! HsK: the law's own def, called from the run itself: no guard stands above it, so repr of data may be had there. -/
namespace Hs
open PySem PySem.Spec PyProof.Rows L2
section
variable {P : Program} {w : World} {K : PySem.W.Frag} {mg : Str → Option Value} {base : Heap} {f : Addr} {fd : FuncData} {x q : Str} {st : Stmt} {N ps : List Str} {k : Nat}
/-- the law's def runs its body, called by the run -/
theorem runLaw {s : Shared} {H : Hp} {args : Args} {us : List Value} {vs : List V} {Q : VK} {E : XK} (F : Fun K x q st f fd) (S : FnScope N ps (defScope st)) (hr : Room (k + 1) callerA) (hl : vs.length = ps.length) (e0 : Env0 P w K mg base callerA [] s H)
    (hb : BindsTo s fd args (ps.zip us)) (r : Vals vs us)
    (body : ∀ cdv : Value, Room k (callerA.deeper (envOfC q (defScope st) s.heap.objs.size f cdv)) →
      ∃ t, PSs (cxOf (L2.CX P w) P w K mg base N q (defScope st) f cdv callerA [] s H E) (defBody st) t ∧ t { nx := fun _ H' => Q .non H', rt := Q } (L2.start N vs) H) :
    codeAny (model P w) callerA (.call (.ref f) args) (CR (L2.CX P w) [] P w H s Q E) s := by
  obtain ⟨oc, od, kV, doc, pm, an, cdv, ct, osl, rfl, lk, hcd⟩ := F.ex
  have KX : K.In s.heap := e0.mod.kin.keeps fun b o e => (e0.bs b o e).1
  have lim : s.heap.NoLimit := e0.mod.nolimit.keeps fun b o e => (e0.bs b o e).1
  have kinds : ∀ y ∈ ps.zip us, (defScope st).names.lookup y.1 = some .local ∨ ((defScope st).names.lookup y.1 = some .cell ∧ ((cellsFrom (s.heap.objs.size + 1) (defScope st).names []).lookup y.1).isSome = true) := by
    rintro ⟨n, v⟩ hy
    rcases S.par n (List.of_mem_zip hy).1 with z | z
    · exact .inl z
    · exact .inr ⟨z, PySem.W.cellsFrom_some _ _ _ (.inl z)⟩
  refine codeAny_call_function hr.depth (KX _ _ lk) rfl S.co S.gen rfl (PySem.W.codeRec_of KX hcd) (hb _ _ _ _ ?_)
  refine wpAny_newFunctionEnv_cells S.kind kinds fun env he s1 x => ?_
  subst he
  refine ⟨lim.keeps x.toInCall.keep, codeAny_func ?_⟩
  obtain ⟨t, ht, hq⟩ := body cdv (hr.deeper _)
  have I : Inv (cxOf (L2.CX P w) P w K mg base N q (defScope st) f cdv callerA [] s H E) [] (L2.start N vs) H s1 :=
    inv_start S hr.hd e0 hl r x
  refine wpAny_mono (ht.run [] s1 (L2.start N vs) H _ I hq) (fun fl s' hs => ?_) fun e s' hs => hs
  cases fl with
  | ret u =>
    obtain ⟨v, σ', H', J, rv, z⟩ := hs
    exact ⟨v, H', J.os, J.bare, J.base, J.hok, rv, z⟩
  | next =>
    obtain ⟨σ', H', J, z⟩ := hs
    exact ⟨V.non, H', J.os, J.bare, J.base, J.hok, rfl, z⟩
  | brk =>
    obtain ⟨_, _, _, z⟩ := hs
    exact z.elim
  | cont =>
    obtain ⟨_, _, _, z⟩ := hs
    exact z.elim
/-- the stand of the law's call: base is what the abstract heap does not speak of -/
theorem lawEnv {mb : Str → Option Value} {a : Addr} {s₁ : Shared} {vs : List Value} {H : Hp} (KX : K.In s₁.heap) (hns : s₁.heap.Ns mainGlobals mg) (hb : s₁.heap.Ns builtinsNs mb) (hbb : ∀ x : Str, x ≠ "__name__" → mb x = bootBuiltins x) (hlim : s₁.heap.NoLimit) (hg : s₁.gens = #[])
    (ha : s₁.heap.get? a = some { cls := .type "list", data := .seq vs.toArray }) (hok : HOk P w H s₁.heap) (lone : ∀ b, H b ≠ none → b = a) (own : H a ≠ none → K.lookup a = none) :
    K.In (hidT s₁.heap H) ∧ (hidT s₁.heap H).Ns mainGlobals mg ∧ Env0 P w K mg (hidT s₁.heap H) callerA [] s₁ H := by
  have none_of : ∀ {b : Addr}, b ≠ a → H b = none := fun {b} hne => by
    cases q : H b with
    | none => rfl
    | some u => exact absurd (lone b (by rw [q]; simp)) hne
  have dicts : ∀ {b : Addr} {o : Obj} {es : Array DictEntry} {ep : Nat}, s₁.heap.get? b = some o → o.data = .dict es ep → H b = none := fun {b o es ep} e d => none_of (fun z => by
    rw [z, ha] at e
    cases e
    cases (show Data.seq vs.toArray _ = Data.dict es ep from d))
  have nsK : ∀ {b : Addr} {m : Str → Option Value}, s₁.heap.Ns b m → (hidT s₁.heap H).Ns b m := fun {b m} ⟨o, es, ep, e, d, r⟩ => ⟨o, es, ep, hidT_get e (dicts e d), d, r⟩
  have kin : K.In (hidT s₁.heap H) := fun b o e => hidT_get (KX b o e) (by
    by_cases hz : b = a
    · cases q : H b with
      | none => rfl
      | some u =>
        subst hz
        rw [own (by rw [q]; simp)] at e
        cases e
    · exact none_of hz)
  refine ⟨kin, nsK hns, rfl, ⟨kin, nsK hns, ⟨mb, nsK hb, hbb⟩, ?_⟩, fun b o e => of_hidT e, Nat.le_of_eq (hidT_size _ _), trivial, fun b hb => absurd (show b ∈ ([] : List Addr) from hb) (by simp), hok, .of_eq hg⟩
  obtain ⟨mc, h1, h2⟩ := hlim
  exact ⟨mc, nsK h1, h2⟩
/-- the law's call, by a promise that is kept where the run itself calls -/
theorem lawRun {mb : Str → Option Value} {fa a : Addr} {s₁ : Shared} {vs : List Value} {ns : List Int} {sp : Sp}
    (KX : K.In s₁.heap) (hns : s₁.heap.Ns mainGlobals mg) (hb : s₁.heap.Ns builtinsNs mb) (hbb : ∀ x : Str, x ≠ "__name__" → mb x = bootBuiltins x) (hlim : s₁.heap.NoLimit) (hg : s₁.gens = #[])
    (ha : s₁.heap.get? a = some { cls := .type "list", data := .seq vs.toArray }) (hi : IntsAre vs ns) (hl : ns.length ≤ sizeLine)
    (F : ∀ base : Heap, K.In base → base.Ns mainGlobals mg → ∀ H : Hp, Env0 P w K mg base callerA [] s₁ H → sp [.ref a] H (fun v _ => v = .bl true) (fun _ _ _ => False) →
      codeAny (model P w) callerA (.call (.ref fa) ⟨[.ref a], []⟩) (CR (L2.CX P w) [] P w H s₁ (fun v _ => v = .bl true) fun _ _ _ => False) s₁)
    (hsp : ∀ H : Hp, SqL K H a (ns.map V.int) → sp [.ref a] H (fun v _ => v = .bl true) fun _ _ _ => False) :
    codeAny (model P w) callerA (.call (.ref fa) ⟨[.ref a], []⟩) (fun r s' => r = .ok (.ret (.bool true)) ∧ OldK s₁.heap s'.heap ∧ s'.os = s₁.os ∧ AllBare s'.gens) s₁ := by
  have rv := vals_ints hi
  have same := hi.length
  have core : ∀ H : Hp, (∀ b, H b = none ∨ ∃ o xs, H b = some (.frz o (.lst xs))) → SqL K H a (ns.map V.int) → HOk P w H s₁.heap → (∀ b, H b ≠ none → b = a) → (H a ≠ none → K.lookup a = none) →
      codeAny (model P w) callerA (.call (.ref fa) ⟨[.ref a], []⟩) (fun r s' => r = .ok (.ret (.bool true)) ∧ OldK s₁.heap s'.heap ∧ s'.os = s₁.os ∧ AllBare s'.gens) s₁ := by
    intro H hO hS hok lone own
    obtain ⟨kin, nsb, e0⟩ := lawEnv (P := P) (w := w) KX hns hb hbb hlim hg ha hok lone own
    refine codeAny_mono (F _ kin nsb H e0 (hsp H hS)) fun r s' h => ?_
    match r, h with
    | .error e, ⟨_, _, _, _, _, _, _, _, _, _, _, _, z⟩ => exact z.elim
    | .ok (.ret u), ⟨v, H', os, bare, un, hok', r', z⟩ =>
      have z : v = .bl true := z
      subst z
      obtain rfl : u = Value.bool true := r'
      refine ⟨rfl, OldK.of_keep fun b o e => ?_, os, bare⟩
      rcases hO b with z | ⟨ob, xs, z⟩
      · exact un.keep b o e z (fun y => absurd (show b ∈ ([] : List Addr) from y) (by simp)) (by simp)
      · have z2 := un.frzs b ob _ z
        have e1 := (hok b _ z).1
        have e2 := (hok' b _ z2).1
        rw [e] at e1
        cases e1
        exact e2
  cases hk : K.lookup a with
  | some o =>
    have e := KX a o hk
    rw [ha] at e
    cases e
    refine core (fun _ => none) (fun _ => .inl rfl) (.inr ⟨_, vs.toArray, _, hk, rfl, rfl, rfl, ?_, by simpa using rv⟩) (fun b u z => ?_) (fun b z => absurd rfl z) fun z => absurd rfl z
    · rw [List.size_toArray, same]; exact hl
    · exact (nomatch (show (none : Option HO) = some u from z))
  | none =>
    let u0 : HO := .frz { cls := .type "list", data := .seq vs.toArray } (.lst (ns.map V.int))
    have at_ : ∀ b, (if b = a then some u0 else none) = none ∨ b = a := fun b => by
      by_cases hz : b = a
      · exact .inr hz
      · exact .inl (if_neg hz)
    refine core (fun b => if b = a then some u0 else none) (fun b => ?_) (.inl (.inr ⟨_, if_pos rfl⟩)) (fun b u z => ?_) (fun b z => ?_) fun _ => hk
    · rcases at_ b with z | z
      · exact .inl z
      · exact .inr ⟨_, _, if_pos z⟩
    · have z : (if b = a then some u0 else none) = some u := z
      rcases at_ b with y | y
      · rw [y] at z; cases z
      · subst y
        rw [if_pos rfl] at z
        cases z
        exact ⟨ha, by rw [List.length_map]; exact hl, vs, _, rv, ha⟩
    · rcases at_ b with y | y
      · exact absurd y z
      · exact y
theorem walk_ofG {l : PySem.W.OpenLaw} {n k : Nat} {q : Program} {loose : List Str} {XP : (Str → Option Value) → Heap → Prop} {YP : World → Heap → Prop} {d : DefRec} {sem : FSem}
    (hn : l.most = some n) (hn2 : n ≤ sizeLine) (hdf : d.params.defaults = []) (hr : Room (k + 1) callerA) {st : Stmt} {N : List Str} {bd : FS} (S : FnScope N ["script"] (defScope st)) (hN : 1 ≤ N.length) (hsem : sem = semOf 1 N.length bd)
    (F : ∀ (w : World) (mg : Str → Option Value) (f : Addr) (h : Heap), YP w h → h.Ns mainGlobals mg → mg d.name = some (.ref f) →
      ∃ (K : PySem.W.Frag) (fd : FuncData), K.In h ∧ (∀ (s : Shared) (u : Value), BindsTo s fd ⟨[u], []⟩ [("script", u)]) ∧ Fun K "law" "law" st f fd ∧
        ∀ base : Heap, K.In base → base.Ns mainGlobals mg → ∀ (cdv : Value) (s : Shared) (H : Hp) (vs : List V) (E : XK), Room k (callerA.deeper (envOfC "law" (defScope st) s.heap.objs.size f cdv)) →
          PFSs (cxOf (L2.CX l.prog w) l.prog w K mg base N "law" (defScope st) f cdv callerA [] s H E) ⟨fun cls d _ H => E cls d H, ioOf [false], L2.start N vs⟩ (defBody st) bd)
    (law : ∀ ns : List Int, ns.length ≤ n → (∀ z ∈ ns, Builtin.Int.intBits z ≤ 1048576) → sem [.d (litD ns)] (fun _ _ => False) (fun r _ => r = .d (.bool true))) :
    PySem.W.WalkO q loose XP YP l.row.toRowW d [] (fun f vs => PySem.call f vs) := by
  subst hsem
  refine Att.attach_callB hn hdf fun w s₀ s₁ mg mb f o pm cd doc a vs ns G Y ho hd hcd hmg hobj hints hlen hbits hg => ?_
  obtain ⟨K, fd, KX, hb, hF, hbody⟩ := F w mg f _ Y G.T.g hmg
  have hz := Nat.le_trans hlen hn2
  refine lawRun (sp := liftSp K mg (ioOf [false]) 1 (semOf 1 N.length bd)) KX G.T.g G.T.b G.T.builtins G.T.nolimit hg hobj hints hz (fun base hX hG H e0 hs => ?_) fun H hS => lawSp hS hz (law ns hlen hbits)
  refine runLaw (us := [.ref a]) (vs := [.ref a]) hF S hr rfl e0 (hb s₁ (.ref a)) (.cons rfl .nil) fun cdv hr' => ?_
  have q := okStart (X := cxOf (L2.CX l.prog w) l.prog w K mg base N "law" (defScope st) f cdv callerA [] s₁ H fun _ _ _ => False) (N := N) (ps := ["script"]) (io := ioOf [false]) (bd := bd) (vs := [.ref a]) (H := H) (Q := fun v _ => v = .bl true) (E := fun _ _ _ => False) hN hs
  exact ⟨_, hbody base hX hG cdv s₁ H [.ref a] _ hr', q⟩

/-! ### repr -/
variable {X : Cx} {L : Lv}
/-- repr(x): the text of a value -/
def bRepr : VN := fun ds Q => match ds with
  | [.list xs] => SeqAt.shaped (.list xs) = true ∧ (PyData.list xs).showable = true ∧ (PyData.list xs).hasDict = false ∧ (PyData.list xs).shown.length ≤ sizeLine ∧ Q (.d (.str (PyData.list xs).shown))
  | [.tuple xs] => SeqAt.shaped (.tuple xs) = true ∧ (PyData.tuple xs).showable = true ∧ (PyData.tuple xs).hasDict = false ∧ (PyData.tuple xs).shown.length ≤ sizeLine ∧ Q (.d (.str (PyData.tuple xs).shown))
  | _ => False
theorem fb_repr (hg : X.A.guards = some []) (hu : X.A.units + 100 < cLine) : CallR X (.builtin "repr") (rFN X.K bRepr) := by
  intro pins s σ H vs us Q I rv ⟨Z, ds, Qf, hz, rr, g, q⟩
  have one : ∀ {d : D} {p : Addr} {u : Value}, RpV X.K Z H (.ref p) d → SeqAt.shaped d = true → d.showable = true → d.hasDict = false → d.shown.length ≤ sizeLine → Qf (.d (.str d.shown)) → wpAny (model X.prog X.w) X.A (call (.builtin "repr") [.ref p]) (EP X pins σ Q) X.xe s := by
    intro d p u r h1 h2 h3 h4 h5
    obtain ⟨as, rd⟩ := Dp.reads I d _ _ (r.dp hz h1) (show RelV (.ref p) (.ref p) from rfl)
    have dp := SeqAt.depth_of_shaped h1
    refine repr_of_reads' rd h2 (fun e => by rw [h3] at e; cases e) hg (by omega) (fun b o e => e) (fun h' u tk kp => ?_) h4
    exact ⟨.str d.shown, H, I.kept (t' := tk) kp, ⟨u, rfl⟩, q _ H Z _ (.d hz (.str _)) h5⟩
  unfold bRepr at g
  split at g
  · obtain ⟨v, rfl, r1⟩ := rr.one
    obtain ⟨p, vs, rfl, h1, h2, h3⟩ := r1.list hz
    obtain ⟨u, rfl, ru⟩ := vals1 rv
    cases ru
    exact one (u := .none) r1 g.1 g.2.1 g.2.2.1 g.2.2.2.1 g.2.2.2.2
  · obtain ⟨v, rfl, r1⟩ := rr.one
    obtain ⟨p, vs, rfl, h1, h2, h3⟩ := r1.tuple hz
    obtain ⟨u, rfl, ru⟩ := vals1 rv
    cases ru
    exact one (u := .none) r1 g.1 g.2.1 g.2.2.1 g.2.2.2.1 g.2.2.2.2
  · exact g.elim
end
end Hs
/-! HsX: sorted(set(a list of ints)). -/
namespace Hs
open PySem PySem.Spec PyProof.Rows L2
section
variable {P : Program} {w : World} {A : Around} {E : Value → Shared → Prop} {s : Shared}
/-- the empty set's object -/
abbrev nilSet (w : World) : Obj := { cls := .type "set", dict := none, data := .set #[] 0 (.fresh 0 0 (!w.params.followText "set-order")) }
set_option maxRecDepth 100000 in
set_option maxHeartbeats 3200000 in
theorem call_set_listI {l : Addr} {items : Array Value} (ns : List Int) {Q : Value → Shared → Prop} (hh : A.handled = none) (hl : s.heap.IsList l items) (hit : IntsAre items.toList ns) (hb : ns.length + 1 < scanBound)
    (h : ∀ (h' : Heap) (tk c : Nat), SetR w h' s.heap.objs.size (fun j => decide (j ∈ ns)) c → c ≤ ns.length → (∀ b o, s.heap.get? b = some o → h'.get? b = some o) → Q (.ref s.heap.objs.size) { s with heap := h', toks := tk }) :
    wpAny (model P w) A (call (.type "set") [.ref l]) Q E s := by
  have hn : items.size = ns.length := by simpa using IntsAre.length hit
  obtain ⟨c, tl, hmro⟩ := F.called_set.mro
  have hmade := F.called_set.made
  have hsub := F.called_set.sub
  refine wpAny_call (codeAny_of_tree ?_)
  show wpAny _ _ (callAny (.type "set") _) _ _ _
  refine wpAny_pure ⟨Code.quiet_builtin _ (by decide +kernel), codeAny_builtin F.entry_type_call ?_⟩
  rw [Around.under_plain (weight_type_call_type "set" [.ref l] []) rfl]
  have h1 := F.called_set.notType
  have h2 := F.called_set.canCreate
  have hct := F.typeCall_set_1 (.ref l)
  repeat (any_goals (first | assumption | wp_step))
  refine codeAny_mono (code_set_led1 (.ref l) (E := E) (Q₁ := fun obj s₁ => obj = .ref s.heap.objs.size ∧ s₁ = { s with heap := s.heap.push (nilSet w) }) ⟨rfl, rfl⟩) fun r s₁ hr => ?_
  cases r with
  | error e => exact hr
  | ok fl =>
    cases fl with
    | ret obj =>
      obtain ⟨rfl, rfl⟩ := hr
      have hS : (s.heap.push (nilSet w)).get? s.heap.objs.size = some (nilSet w) := Heap.get?_push_size _ rfl
      have hT : Shared.TypeIs { s with heap := s.heap.push (nilSet w) } (.ref s.heap.objs.size) "set" := ⟨_, hS, rfl⟩
      have hli := F.called_set.init.lookup
      have hbi := F.called_set.init.bind (.ref s.heap.objs.size)
      repeat (any_goals (first | assumption | wp_step))
      refine codeAny_mono (codeAny_call_builtin (R := wants (fun r s₂ => r = .none ∧ ∃ h' tk c, s₂ = { s with heap := h', toks := tk } ∧ SetR w h' s.heap.objs.size (fun j => decide (j ∈ ns)) c ∧ c ≤ ns.length ∧
          (∀ b o, s.heap.get? b = some o → h'.get? b = some o)) E) F.called_set.init.plain F.entry_set_init (check_set_init_1 hT ?_)) fun r₂ s₂ hr₂ => ?_
      · obtain ⟨ol, hol, hcl, nl, hdl⟩ := hl
        obtain ⟨ocls, odict, odata, oslots⟩ := ol
        simp only at hcl hdl
        subst hcl; subst hdl
        have hol' : (s.heap.push (nilSet w)).get? l = some { cls := .type "list", dict := odict, data := .seq items nl, slots := oslots } := Heap.get?_push_of_some _ hol
        have hsls := F.sub_list_set
        have hslf := F.sub_list_frozenset
        have hne : (Value.type "list" == Value.type "dict") = false := by decide
        have hl1 : (s.heap.push (nilSet w)).IsList l items := ⟨_, hol', rfl, nl, rfl⟩
        unfold Builtin.«set.__init__» noKeywords Builtin.Frozenset.updateFrom
        generalize hPI : pyIter = PI
        wp_walk
        subst hPI
        refine wpAny_pyIter_list hl1 ?_
        refine wpAny_bind (wpAny_runValue ?_)
        have hlS : l < s.heap.objs.size := Heap.lt_size hol
        have hh3 : A.in1.in1.in1.handled = none := by simp [hh]
        have hz1 : (s.heap.push (nilSet w)).objs.size = s.heap.objs.size + 1 := Heap.size_push ..
        have hneI : l ≠ (s.heap.push (nilSet w)).objs.size := by rw [hz1]; exact Nat.ne_of_lt (Nat.lt_succ_of_lt hlS)
        have hSf : s.heap.objs.size ∉ [(s.heap.push (nilSet w)).objs.size, l] := by
          rw [hz1]
          simp only [List.mem_cons, List.not_mem_nil, or_false, not_or]
          exact ⟨Nat.ne_of_lt (Nat.lt_succ_self _), Nat.ne_of_gt hlS⟩
        have hval : ∀ (i : Nat) (v : Value), items[i]? = some v → ∃ k t, ns[i]? = some k ∧ v = .int k t := fun i v hv => by
          have hi : i < ns.length := by rw [← hn]; exact (Array.getElem?_eq_some_iff.mp hv).1
          obtain ⟨t, e⟩ := PyProof.Rows.IntsAre.int_at hit i v (by rw [Array.getElem?_toList]; exact hv)
          refine ⟨ns[i], t, List.getElem?_eq_getElem hi, ?_⟩
          rw [e, List.getD_eq_getElem?_getD, List.getElem?_eq_getElem hi] <;> rfl
        refine set_update_ints ((Walks.list hh3 _ l hneI items).toS) s.heap.objs.size hSf ns hn hb hval (items.size - 0) 0 _ (by omega) (Nat.zero_le _) ⟨⟨_, Heap.get?_push_size _ rfl, rfl, rfl⟩, (hl1.push _)⟩
          ⟨0, Nat.le_refl 0, setR_new_at (Heap.get?_push_of_some _ hS)⟩ ?_
        intro s' c' hm hc' hS'
        obtain ⟨h', g2, d', tk', os'⟩ := s'
        have eg : g2 = s.gens := hm.gens
        have ed : d' = s.drawn := hm.drawn
        have eo : os' = s.os := hm.os
        subst eg; subst ed; subst eo
        show wpAny _ _ _ _ _ _
        refine wpAny_pure ?_
        show wpAny _ _ (ret Value.none) _ _ _
        rw [hn] at hc'
        refine wpAny_pure ⟨rfl, h', tk', c', rfl, hS', hc', fun b o e => ?_⟩
        have hb0 : b < s.heap.objs.size := Heap.lt_size e
        exact hm.heap b o (by
          rw [hz1]
          simp only [List.mem_cons, List.not_mem_nil, or_false, not_or]
          exact ⟨Nat.ne_of_lt hb0, Nat.ne_of_lt (Nat.lt_succ_of_lt hb0)⟩) (Heap.get?_push_of_some _ (Heap.get?_push_of_some _ e))
      · cases r₂ with
        | error e => exact hr₂
        | ok fl₂ =>
          cases fl₂ with
          | ret r =>
            obtain ⟨rfl, h', tk, c', rfl, hS', hc', hk'⟩ := hr₂
            repeat (any_goals (first | assumption | wp_step))
            exact h _ _ _ hS' hc' hk'
          | _ => exact hr₂.elim
    | _ => exact hr.elim
end
/-- set(a list or a tuple of ints) -/
def rSetOfI (K : PySem.W.Frag) (w : World) : List V → Hp → VK → Prop := fun xs H Q => ∃ (l : Addr) (ns : List Int), xs = [V.ref l] ∧ (Rd H l (.lst (ns.map V.int)) ∨ SqT K H l (ns.map V.int)) ∧ ns.length ≤ 1000 ∧
  ∀ a c, H a = none → c ≤ ns.length → Q (.ref a) (upd H a (SetO w a (fun j => decide (j ∈ ns)) c))
section
variable {X : Cx} {L : Lv}
theorem cr_setOfI (hc : X.calm = true) : CallR X (.type "set") (rSetOfI X.K X.w) := by
  intro pins s σ H xs us Q I r h
  obtain ⟨l, ns, rfl, hl, hf, q⟩ := h
  rw [Vals.ref1 r]
  have hn : H s.heap.objs.size = none := I.hok.fresh (Nat.le_refl _)
  have fin : ∀ (h' : Heap) (tk c : Nat), SetR X.w h' s.heap.objs.size (fun j => decide (j ∈ ns)) c → c ≤ ns.length → (∀ b o, s.heap.get? b = some o → h'.get? b = some o) → ∃ v H', Inv X pins σ H' { s with heap := h', toks := tk } ∧ RelV v (.ref s.heap.objs.size) ∧ Q v H' :=
    fun h' tk c R hcl k => ⟨.ref s.heap.objs.size, upd H s.heap.objs.size (SetO X.w s.heap.objs.size _ c), I.laid (t' := tk) k (Nat.le_refl _) (setO_new R), rfl, q _ c hn hcl⟩
  rcases hl with hl | hl
  · obtain ⟨its, rv, pl, hz⟩ := I.list (Or.inl hl)
    exact call_set_listI (P := X.prog) (w := X.w) ns (I.ok.hd hc) pl.isList (ints_of_vals rv) (by unfold scanBound; omega) fin
  · obtain ⟨its, rv, pt, hz⟩ := I.tuple hl
    exact call_set_tupI (P := X.prog) (w := X.w) ns (I.ok.hd hc) pt (ints_of_vals rv) (by unfold scanBound; omega) fin
def bSortedSet : VN := fun ds k => match ds with
  | [.list xs] => match intsOf xs with
    | some ns => ns.length < 64 ∧ ∀ ms : List Int, ms.Pairwise (· < ·) → (∀ z, z ∈ ms ↔ z ∈ ns) → k (.own (.l (ms.map .int)))
    | none => False
  | [.tuple xs] => match intsOf xs with
    | some ns => ns.length < 64 ∧ ∀ ms : List Int, ms.Pairwise (· < ·) → (∀ z, z ∈ ms ↔ z ∈ ns) → k (.own (.l (ms.map .int)))
    | none => False
  | _ => False
theorem sortedSet_ok {fr : FA} {n : Nat} {σ : St} {H : Hp} {Q : VK} (h : liftE X L (fBlt bSortedSet fr) σ H Q) : tCB (rSortedSet X.w) (tCons (tCB (rSetOfI X.K X.w) (liftA X L n fr)) tNil) σ H Q := by
  obtain ⟨Z, Y, s, Xf, Qf, r, k, xo, h, q⟩ := h
  refine ⟨Z, Y, s, Xf, _, r, k, xo, h, fun vs H1 Z1 rs s1 hz rx hn h1 => ?_⟩
  obtain ⟨ds, rr, h2⟩ := lookAll_ok rx.l2 (fun j q d e1 e2 => rx.look e1 e2) h1
  have zh := rx.rel0.zh
  have fin : ∀ (l : Addr) (ns : List Int), (Rd H1 l (.lst (ns.map V.int)) ∨ SqT X.K H1 l (ns.map V.int)) → ns.length < 64 → (∀ ms : List Int, ms.Pairwise (· < ·) → (∀ z, z ∈ ms ↔ z ∈ ns) → Qf (.own (.l (ms.map .int))) s1) →
      rSetOfI X.K X.w [V.ref l] H1 fun x H2 => tNil σ H2 fun xs H3 => rSortedSet X.w (x :: xs) H3 Q := by
    intro l ns hl hlen hk
    refine ⟨l, ns, rfl, hl, by omega, fun a c ha hcl => ⟨a, _, c, rfl, upd_same, by omega, fun ms p hs hm hml hp => ?_⟩⟩
    have hp1 : H1 p = none := by
      by_cases e : p = a
      · rw [e]; exact ha
      · rw [upd_ne e] at hp; exact hp
    have hpa : p ≠ a := fun e => by rw [e, upd_same] at hp; cases hp
    have sm : Same H1 (upd (upd H1 a (SetO X.w a (fun j => decide (j ∈ ns)) c)) p (.lst (ms.map V.int))) := (same_upd ha).trans (same_upd hp)
    have hzl : (ms.map V.int).length ≤ sizeLine := by rw [List.length_map, hml, sizeLine_eq]; omega
    refine q _ _ Z1 (.own (.l (ms.map .int))) s1 (hz.trans (Same.refl _)) (rx.rel0.new ⟨sm, Same.refl _, zh.trans sm, fun _ _ => rfl, [p], ⟨p, ms.map V.int, rfl, rfl, upd_same, hzl, .of_ints ms⟩, by simp, fun b hb => ?_⟩) (hk ms hs fun z => (hm z).trans decide_eq_true_iff)
    obtain rfl : b = p := by simpa using hb
    exact ⟨hp1, zh.free hp1⟩
  unfold bSortedSet at h2
  split at h2
  · split at h2
    · rename_i eb
      obtain ⟨v, rfl, r1⟩ := rr.one
      obtain ⟨p, vs, rfl, h1, hl, h3⟩ := r1.list zh
      rw [intsOf_eq eb] at h3
      rw [h3.ints] at h1
      exact fin _ _ (.inl h1) h2.1 h2.2
    · exact h2.elim
  · split at h2
    · rename_i eb
      obtain ⟨v, rfl, r1⟩ := rr.one
      obtain ⟨p, vs, rfl, h1, hl, h3⟩ := r1.tuple zh
      rw [intsOf_eq eb] at h3
      rw [h3.ints] at h1
      exact fin _ _ (.inr h1) h2.1 h2.2
    · exact h2.elim
  · exact h2.elim
variable {e : Expr} {fr : FA} {p p2 pos pos2 : Pos} {x y : Str}
theorem pf_sortedSet (hc : X.calm = true) (hm : X.mg "sorted" = none) (hm2 : X.mg "set" = none) (ha : PFA X L [e] fr) (hg : Gl X "sorted" := by rfl) (hg2 : Gl X "set" := by rfl)
    (hs : starEach [.Call (.Name "set" p2) [e] [] pos2] X.env = [(false, eval (.Call (.Name "set" p2) [e] [] pos2) X.env)] := by rfl)
    (hs2 : starEach [e] X.env = [(false, eval e X.env)] := by rfl) : PF X L (.Call (.Name "sorted" p) [.Call (.Name "set" p2) [e] [] pos2] [] pos) (fBlt bSortedSet fr) :=
  PE_imp (pe_callB (cr_sortedSet hc) hg hm bb_sorted (pa_cons (pe_callTy (cr_setOfI hc) hg2 hm2 boot_set ha (by decide) (by decide) hs2 rfl) pa_nil hs) (by decide) (by decide) hs rfl) fun _ _ _ => sortedSet_ok
end
end Hs
/-! HsY: an error caught, kept as a value, looked at; what is never reached. -/
namespace L2
open PySem PySem.Spec PyProof.Rows
section
variable {X : Cx} {pins : List (Addr × Obj)} {σ : St} {H : Hp} {s : Shared}
/-- an object that is there is looked at from now on -/
theorem Inv.track {a : Addr} {φ : Heap → Prop} (I : Inv X pins σ H s) (na : H a = none) (h0 : ∀ o, X.s_0.heap.get? a = some o → a ∈ X.ex) (hp : ∀ p ∈ X.pn ++ pins, p.1 ≠ a) (hL : a ≠ X.env.locals) (hC : ∀ x c, X.env.cells.lookup x = some c → c ≠ a)
    (new : ObjOk X.prog X.w (upd H a (.ext φ)) s.heap a (.ext φ)) : Inv X pins σ (upd H a (.ext φ)) s where
  ok := I.ok
  os := I.os
  bare := I.bare
  base := ⟨I.base.keep, I.base.slot, fun b o q n hx => by
      rw [upd_ne (fun z => hx (by rw [z] at q ⊢; exact h0 o q))]
      exact I.base.free b o q n hx, I.base.there, fun b xs q => by
      have q2 := I.base.tups b xs q
      rw [upd_ne (ne_of_none q2 na)]; exact q2, fun b o u q => by
      have q2 := I.base.frzs b o u q
      rw [upd_ne (ne_of_none q2 na)]; exact q2, fun b ps q => by
      obtain ⟨more, q2⟩ := I.base.tbls b ps q
      exact ⟨more, by rw [upd_ne (ne_of_none q2 na)]; exact q2⟩⟩
  loc := I.loc
  cell := I.cell
  free := by rw [upd_ne (Ne.symm hL)]; exact I.free
  freeC := fun x c e => by rw [upd_ne (hC x c e)]; exact I.freeC x c e
  pin := fun p q => by
    obtain ⟨h1, h2, h3⟩ := I.pin p q
    exact ⟨h1, by rw [upd_ne (hp p q)]; exact h2, h3⟩
  hok := I.hok.laidN (fun _ _ e => e) na new
  len := I.len
theorem Inv.suite0 (I : Inv X pins σ H s) (a : Addr) : Inv (X.suite a (X.pn ++ pins)) [] σ H s :=
  ⟨I.ok.suite _ _, I.os, I.bare, I.base, I.loc, I.cell, I.free, I.freeC, fun p hp => I.pin p (by rw [List.append_nil] at hp; exact hp), I.hok, I.len⟩
theorem Inv.unsuite0 {a : Addr} {pn' : List (Addr × Obj)} (I : Inv (X.suite a (X.pn ++ pins)) pn' σ H s) (ok : X.Ok) : Inv X pins σ H s :=
  ⟨ok, I.os, I.bare, I.base, I.loc, I.cell, I.free, I.freeC, fun p hp => I.pin p (List.mem_append_left _ hp), I.hok, I.len⟩
end
/-- what the body may raise: errors of classes under c, made with a text; the suite has them as things to look at -/
def wAsE (K : PySem.W.Frag) (c : Value) (i : Nat) (ts : TS) (D : Ends) : WX := fun cls d σ H =>
  d = none ∧ ∃ C : Addr, cls = .ref C ∧ PySem.W.exmOne K cls c = some true ∧ ∀ a, H a = none → ts { nx := fun σ' H' => D.nx (σ'.set i none) H', rt := D.rt, bk := fun σ' H' => D.bk (σ'.set i none) H', ct := fun σ' H' => D.ct (σ'.set i none) H' } (σ.set i (some (.ref a))) (upd H a (Hs.ExV C a))
section
variable {X : Cx} {x n : Str} {c : Value} {i : Nat} {body suite : List Stmt} {b₀ : Stmt} {np pos pos' : Pos} {tb : WX → TS} {ts : TS}
theorem ps_try_exc (hs : X.stack = X.env :: X.outer) (hf : X.env.frame = some X.env.locals) (hN : X.N.Nodup) (hi : X.N[i]? = some n) (hln : X.env.kindOf n = some .local) (hc : Names X x c)
    (hb : ∀ (W : WX) (pn : List (Addr × Obj)) (xe : Value → Shared → Prop), Takes (X.tr pn xe) W → PSs (X.tr pn xe) body (tb W))
    (hsu : ∀ (a : Addr) (pn : List (Addr × Obj)), PSs (X.suite a pn) (b₀ :: suite) ts) :
    PS X (.Try body [.ExceptHandler (some (.Name x np)) (some n) (b₀ :: suite) pos'] [] [] pos) (fun D σ H => tb (wAsE X.K c i ts D) D σ H) := by
  refine ⟨fun pins s σ H D I h => ?_⟩
  have ok := I.ok
  have hfr : X.A.frames = some (X.env :: X.outer) := by rw [ok.frames, hs]
  have hloc : Loc X.env.scope n := .inl hln
  refine wpAny_Try_except ?_
  refine wpAny_mono ((hb (wAsE X.K c i ts D) (X.pn ++ pins) (fun e s₁ => wpAny (model X.prog X.w) X.A (noteFrame e X.env) (fun _ s₂ => wpAny (model X.prog X.w) X.A (setFlight e none) (fun _ s₃ =>
    wpAny (model X.prog X.w) X.A (handleBy e X.env [.ExceptHandler (some (.Name x np)) (some n) (b₀ :: suite) pos']) (SP X pins D) X.xe s₃) X.xe s₂) X.xe s₁) (fun u s' xx => ?_)).run [] s σ H D (I.toTry _) h) (fun f s1 hsp => ?_) (fun e s1 he => he)
  · obtain ⟨a, B, sI, pins', σ', H', cls, d, rfl, J', nb, up, sky, na, os, ag, rfl, C, rfl, hb1, hyes⟩ := xx
    have J : Inv X pins σ' H' sI := J'.ofTry ok
    have sky' : Sky B (X.env :: X.outer) a (Zc (.ref C) none) X.env.locals s'.heap := by rw [← hs]; exact sky
    show wpAny (model X.prog X.w) X.A (noteFrame (.ref a) X.env) _ _ _
    refine Sky.land Zc.steady hfr hf sky' fun h3 fl3 up3 => ?_
    have J3 : Inv X pins σ' H' { s' with heap := h3 } := J.landed nb fl3.1 (up.trans up3) os ag
    obtain ⟨oe3, vs3, he3, hz3, hd3⟩ := fl3.there
    have nfr : a ∉ frs (X.env :: X.outer) := fun hm => by
      obtain ⟨_, o', e', hnf⟩ := fl3.2.2.1.mem hm
      rw [he3] at e'; cases e'
      exact hnf _ hd3
    have nL : a ≠ X.env.locals := fun z => nfr (List.mem_filterMap.mpr ⟨X.env, List.mem_cons_self, by rw [hf, z]⟩)
    have nF : a ∉ X.fs := fun hm => by
      obtain ⟨e, he, q⟩ := List.mem_filterMap.mp hm
      exact nfr (List.mem_filterMap.mpr ⟨e, List.mem_cons_of_mem _ he, q⟩)
    have new : ∀ o, sI.heap.get? a ≠ some o := fun o e => by
      have q := nb a o e (by rw [hs]; exact nfr)
      rw [fl3.2.1] at q; cases q
    have S3 := J3.suite he3 hd3 na nL nF
    refine wpAny_handleBy_cons (codeAny_handlers_test ?_) (by intro q; cases q)
    have LT : PySem.W.Looks (model X.prog X.w) h3 (typeOf (.ref a)) (.ref C) := fun A Q E s k q => wpAny_typeOf_ref (k _ _ he3) (by rw [hz3.1]; exact q)
    have LM := PySem.W.exm_one (M := model X.prog X.w) (J3.kIn) LT hb1
    have test : ∀ {Q : Value → Shared → Prop} {E : Value → Shared → Prop}, Q c { s' with heap := h3 } → wpAny (model X.prog X.w) (X.A.mark (some (.ref a))) (eval (.Name x np) X.env) Q E { s' with heap := h3 } := fun {Q E} q => by
      obtain ⟨hg, hdbg, hm | ⟨hm, hv, hnn⟩⟩ := hc
      · exact ld_glob (X := X.suite a ((a, oe3) :: (X.pn ++ pins))) S3 hg hm q hdbg
      · exact ld_blt (X := X.suite a ((a, oe3) :: (X.pn ++ pins))) S3 hg hm hv q hnn hdbg
    refine test (LM.here ?_)
    refine codeAny_handlers_suite_as ?_
    refine HandSPX.lands_againZ fl3 fun h4 fl4 up4 => ?_
    have J4 : Inv X pins σ' H' { s' with heap := h4 } := J.landed nb fl4.1 ((up.trans up3).trans up4) os ag
    obtain ⟨oe4, vs4, he4, hz4, hd4⟩ := fl4.there
    have T4 : Inv X pins σ' (upd H' a (Hs.ExV C a)) { s' with heap := h4 } := J4.track na
      (fun o e => by
        by_cases hx : a ∈ X.ex
        · exact hx
        · obtain ⟨o', e'⟩ := J.base.there a o e hx
          exact absurd e' (new o'))
      (fun p hp z => new p.2 (by rw [← z]; exact (J.pin p hp).1)) nL
      (fun y c' e z => by
        obtain ⟨v, o, eo, hd⟩ := J.cell y c' e
        rw [z] at eo
        exact new _ eo)
      ⟨⟨oe4, vs4, he4, hz4, hd4⟩, ⟨oe4, he4⟩, fun h1 h2 ⟨oe, vs, e1, z1, d1⟩ k => ⟨oe, vs, k _ e1, z1, d1⟩⟩
    refine store_ok (X := X.suite a (X.pn ++ pins)) (v := .ref a) (T4.suite0 a) hN hi hloc rfl (fun s5 S5 => ?_) (.inr hln)
    refine wpAny_mono ((hsu a (X.pn ++ pins)).run [] s5 _ _ _ S5 (hyes a na)) (fun f s6 hsp => ?_) (fun _ _ z => False.elim z)
    have end_ : ∀ {σ6 : St} {H6 : Hp} {Q : Shared → Prop}, Inv (X.suite a (X.pn ++ pins)) [] σ6 H6 s6 → (∀ s7, Inv X pins (σ6.set i none) H6 s7 → Q s7) →
        wpAny (model X.prog X.w) X.A (do bindName X.env n .none; unbindBehindTheSuite X.env n pos') (fun _ s7 => Q s7) X.xe s6 := fun {σ6 H6 Q} S6 hq => gone_ok (S6.unsuite0 ok) hN hi hln hq
    cases f with
    | next =>
      obtain ⟨σ6, H6, S6, q6⟩ := hsp
      exact end_ S6 fun s7 J7 => ⟨_, _, J7, q6⟩
    | brk =>
      obtain ⟨σ6, H6, S6, q6⟩ := hsp
      exact end_ S6 fun s7 J7 => ⟨_, _, J7, q6⟩
    | cont =>
      obtain ⟨σ6, H6, S6, q6⟩ := hsp
      exact end_ S6 fun s7 J7 => ⟨_, _, J7, q6⟩
    | ret u =>
      obtain ⟨v6, σ6, H6, S6, r6, q6⟩ := hsp
      exact end_ S6 fun s7 J7 => ⟨_, _, _, J7, r6, q6⟩
  · cases f with
    | next =>
      obtain ⟨σ', H', J', q⟩ := hsp
      exact wpAny_execs_nil ⟨σ', H', J'.ofTry ok, q⟩
    | brk =>
      obtain ⟨σ', H', J', q⟩ := hsp
      exact ⟨σ', H', J'.ofTry ok, q⟩
    | cont =>
      obtain ⟨σ', H', J', q⟩ := hsp
      exact ⟨σ', H', J'.ofTry ok, q⟩
    | ret u =>
      obtain ⟨v, σ', H', J', r, q⟩ := hsp
      exact ⟨v, σ', H', J'.ofTry ok, r, q⟩
/-- isinstance(e, c), e an error that is looked at -/
def rIsV (K : PySem.W.Frag) : List V → Hp → VK → Prop := fun xs H Q => ∃ (a D : Addr) (c : V) (cv : Value) (b : Bool), xs = [.ref a, c] ∧ H a = some (Hs.ExV D a) ∧ ExcC K D ∧ (∀ u, RelV c u → u = cv) ∧ PySem.W.kitOne K (.ref D) cv = some b ∧ Q (.bl b) H
theorem call_isV {X : Cx} : CallR X (.builtin "isinstance") (rIsV X.K) := by
  intro pins s σ H xs us Q I r h
  obtain ⟨a, D, c, cv, b, rfl, ha, C, hcv, e, q⟩ := h
  cases r with
  | cons rx rr =>
    cases rr with
    | cons rt rr =>
      cases rr
      cases rx
      have ec := hcv _ rt
      subst ec
      obtain ⟨⟨oe, vs, hget, hz, hv⟩, _⟩ := I.hok a _ ha
      have J : PySem.W.InstAt s.heap a oe D none := by
        obtain ⟨oc, od, oda, osl⟩ := oe
        obtain ⟨h1, h2⟩ := hz
        dsimp only at h1 h2 hv
        subst h1 h2 hv
        exact ⟨hget, rfl, rfl, trivial⟩
      exact PySem.W.kia_one (PySem.W.handS_kitx_exc C.hg C.hk C.hs C.hd C.ha C.hn C.ht C.hm) I.kIn J e (fun z => nomatch z) fun tk => ⟨.bl b, H, I.kept (t' := tk) fun _ _ z => z, rfl, q⟩
end
end L2
namespace Hs
open PySem PySem.Spec PyProof.Rows L2
/-! ### try -/
/-- try: body / except C as e: suite; ns: the classes under C that the body may raise -/
def fTry (ns : List Str) (i : Nat) (body suite : FS) : FS := fun E s => body { E with xx := fun n s1 => n ∈ ns ∧ suite { E with nx := fun s2 => E.nx (s2.set i .no), bk := fun s2 => E.bk (s2.set i .no), ct := fun s2 => E.ct (s2.set i .no), xx := fun _ _ => False } (s1.set i (.d (excD n))) } s
section
variable {K : PySem.W.Frag} {Z Y H : Hp} {σ : St} {s : S}
theorem Rel.unset (r : Rel K Z Y H σ s) (i : Nat) : Rel K Z Y H (σ.set i none) (s.set i .no) :=
  r.re (fun k => if k = i then none else some k) (by rw [List.length_set, List.length_set]; exact r.len) (fun k => by
    by_cases h : k = i
    · subst h
      simp only [if_pos rfl]
      refine .inl ?_
      by_cases hk : k < s.length
      · exact getD_set_self hk
      · exact getD_out (by rw [List.length_set]; omega)
    · simp only [if_neg h]
      exact ⟨getD_set_ne (Ne.symm h), getD_set_ne (Ne.symm h)⟩) (fun k k' j h h' => by
    by_cases a : k = i
    · rw [if_pos a] at h; cases h
    · rw [if_neg a] at h
      by_cases b : k' = i
      · rw [if_pos b] at h'; cases h'
      · rw [if_neg b] at h'; cases h; cases h'; rfl)
end
section
variable {X : Cx} {L : Lv} {x n : Str} {c : Value} {i : Nat} {body suite : List Stmt} {b₀ : Stmt} {np pos pos' : Pos} {fb fs : FS} {ns : List Str}
theorem pfs_try (hs : X.stack = X.env :: X.outer) (hf : X.env.frame = some X.env.locals) (hN : X.N.Nodup) (hi : X.N[i]? = some n) (hln : X.env.kindOf n = some .local) (hc : Names X x c)
    (hns : ∀ m ∈ ns, X.mg m = some (.ref (He.ga X.K m)) ∧ PySem.W.exmOne X.K (.ref (He.ga X.K m)) c = some true)
    (hb : ∀ (W : WX) (pn : List (Addr × Obj)) (xe : Value → Shared → Prop), Takes (X.tr pn xe) W → PFSs (X.tr pn xe) { L with E := W } body fb)
    (hsu : ∀ (a : Addr) (pn : List (Addr × Obj)), PFSs (X.suite a pn) L (b₀ :: suite) fs) (hio : i ∉ L.io := by exact of_decide_eq_true rfl) :
    PFS X L (.Try body [.ExceptHandler (some (.Name x np)) (some n) (b₀ :: suite) pos'] [] [] pos) (fTry ns i fb fs) :=
  PS_imp (ps_try_exc hs hf hN hi hln hc (tb := fun W => liftS X { L with E := W } fb) (ts := liftS X L fs) (fun W pn xe tk => PSs_imp (hb W pn xe tk) fun D σ H ⟨Z, Y, s, Ef, r, k, h, eo⟩ => ⟨Z, Y, s, Ef, r, k, h, ⟨eo.nx, eo.rt, eo.bk, eo.ct, eo.xx⟩⟩) (fun a pn => PSs_imp (hsu a pn) fun D σ H ⟨Z, Y, s, Ef, r, k, h, eo⟩ => ⟨Z, Y, s, Ef, r, k, h, ⟨eo.nx, eo.rt, eo.bk, eo.ct, eo.xx⟩⟩)) fun D σ H ⟨Z, Y, s, Ef, r, k, h, eo⟩ => by
  refine ⟨Z, Y, s, _, r, k, h, ⟨eo.nx, eo.rt, eo.bk, eo.ct, ?_⟩⟩
  rintro m C Z' H' σ' s' hz k' r' ⟨hm, q⟩ e
  obtain ⟨e2, hx⟩ := hns m hm
  rw [e2] at e
  cases e
  refine ⟨rfl, _, rfl, hx, fun a na => ?_⟩
  have r1 := Rel.newZ r' (ExV (He.ga X.K m) a) na
  have z1 : Same Z' (upd Z' a (ExV (He.ga X.K m) a)) := same_upd (r'.fresh na)
  refine ⟨_, Y, _, _, Rel.put (r1.pushD (Rp.exc upd_same)) r1.len i, L.keeps_set k' hio, q, ⟨fun σ2 H2 Z2 s2 hz2 k2 r2 h2 => ?_, fun v σ2 H2 Z2 r s2 hz2 k2 r2 h2 => ?_, fun σ2 H2 Z2 s2 hz2 k2 r2 h2 => ?_, fun σ2 H2 Z2 s2 hz2 k2 r2 h2 => ?_, XOk.none⟩⟩
  · exact eo.nx _ _ _ _ ((hz.trans z1).trans hz2) (L.keeps_set k2 hio) (r2.unset i) h2
  · exact eo.rt _ _ _ _ _ _ ((hz.trans z1).trans hz2) k2 r2 h2
  · exact eo.bk _ _ _ _ ((hz.trans z1).trans hz2) (L.keeps_set k2 hio) (r2.unset i) h2
  · exact eo.ct _ _ _ _ ((hz.trans z1).trans hz2) (L.keeps_set k2 hio) (r2.unset i) h2
end
/-! ### isinstance(e, C), C a class of the program, or ValueError -/
def bIsX (tb : List (Str × Bool)) : V1 := fun d k => match d with
  | .dict [(.none, .str c)] => match tb.lookup c with
    | some b => k (.d (.bool b))
    | none => False
  | _ => False
section
variable {K : PySem.W.Frag} {Z H : Hp} {v : V} {c : Str}
theorem RpV.exc (r : RpV K Z H v (.dict [(.none, .str c)])) (e : Same Z H) : ∃ a : Addr, v = .ref a ∧ H a = some (ExV (He.ga K c) a) := by
  rcases r with r | ⟨p, vs, xs', rfl, e2, h, z, a⟩ | ⟨p, kvs, rfl, e2, h⟩
  · generalize e0 : (PyData.dict [(.none, .str c)]) = d at r
    cases r with
    | lit h z =>
      unfold litD at e0
      injection e0 with e1
      injection e1 with e2 _
      injection e2 with _ e3
      cases e3
    | exc h =>
      unfold excD at e0
      injection e0 with e1
      injection e1 with e2 _
      injection e2 with _ e3
      injection e3 with e4
      subst e4
      exact ⟨_, rfl, e _ _ h⟩
    | dcK h a => cases e0; exact a.nolit.elim
    | dcT h a => cases e0
    | obj h1 h2 a => cases e0
    | _ => cases e0
  · cases e2
  · cases e2
    rcases h with ⟨ks, e1, r⟩ | ⟨ks, kvs', e0, e1, r⟩
    · exact r.nolit.elim
    · cases e0
end
section
variable {X : Cx} {L : Lv} {a : Expr} {fa : FE} {p p2 pos : Pos} {y : Str}
theorem isX_ok {tb : List (Str × Bool)} {w : V} {cv : Value} (hcv : ∀ u, RelV w u → u = cv) (hf : ∀ c b, tb.lookup c = some b → ExcC X.K (He.ga X.K c) ∧ PySem.W.kitOne X.K (.ref (He.ga X.K c)) cv = some b) {σ : St} {H : Hp} {Q : VK} (h : liftE X L (fUn (bIsX tb) fa) σ H Q) :
    tCB (rIsV X.K) (tCons (liftE X L fa) (tCons (tC w) tNil)) σ H Q := by
  obtain ⟨Z, Y, s, Xf, Qf, r, k, xo, h, q⟩ := h
  refine ⟨Z, Y, s, Xf, _, r, k, xo, h, fun v H1 Z1 r1 s1 hz rx h1 => ?_⟩
  obtain ⟨d, e1, h3⟩ := look_ok h1
  obtain ⟨v', ev, rv⟩ := rx.look (k := 0) rfl e1
  cases ev
  unfold bIsX at h3
  split at h3
  · split at h3
    · rename_i b hb
      obtain ⟨a, rfl, ha⟩ := rv.exc rx.rel0.zh
      obtain ⟨C, hk⟩ := hf _ _ hb
      exact ⟨a, _, w, cv, b, rfl, ha, C, hcv, hk, q _ H1 Z1 _ s1 hz (.d rx.rel0 (.bl _)) h3⟩
    · exact h3.elim
  · exact h3.elim
theorem pf_isX {tb : List (Str × Bool)} (ha : PF X L a fa) (hm : X.mg "isinstance" = none) (hC : X.mg y = some (.ref (He.ga X.K y))) (hf : ∀ c b, tb.lookup c = some b → ExcC X.K (He.ga X.K c) ∧ PySem.W.kitOne X.K (.ref (He.ga X.K c)) (.ref (He.ga X.K y)) = some b)
    (hg : Gl X "isinstance" := by rfl) (hgT : Gl X y := by rfl) (hdT : (y == ("__debug__" : Str)) = false := by decide) (he : starEach [a, .Name y p2] X.env = (false, eval a X.env) :: starEach [.Name y p2] X.env := by rfl) (he2 : starEach [.Name y p2] X.env = (false, eval (.Name y p2) X.env) :: starEach [] X.env := by rfl)
    (hpl : (backTo pos (starEach [.Name y p2] X.env)).any (·.1) = false := by rfl) : PF X L (.Call (.Name "isinstance" p) [a, .Name y p2] [] pos) (fUn (bIsX tb) fa) :=
  PE_imp (pe_callB call_isV hg hm (by decide +kernel) (pa_cons ha (pa_cons (pe_glob (v := .ref (He.ga X.K y)) hgT hC rfl hdT) pa_nil he2) he) (by decide) (by decide) he hpl) fun _ _ _ => isX_ok (fun u (e : RelV (.ref (He.ga X.K y)) u) => e) hf
theorem pf_isXT {tb : List (Str × Bool)} {T : String} (ha : PF X L a fa) (hm : X.mg "isinstance" = none) (hmT : X.mg y = none) (hbT : bootBuiltins y = some (.type T)) (hf : ∀ c b, tb.lookup c = some b → ExcC X.K (He.ga X.K c) ∧ PySem.W.kitOne X.K (.ref (He.ga X.K c)) (.type T) = some b)
    (hg : Gl X "isinstance" := by rfl) (hgT : Gl X y := by rfl) (hnT : y ≠ "__name__" := by decide) (hdT : (y == ("__debug__" : Str)) = false := by decide) (he : starEach [a, .Name y p2] X.env = (false, eval a X.env) :: starEach [.Name y p2] X.env := by rfl) (he2 : starEach [.Name y p2] X.env = (false, eval (.Name y p2) X.env) :: starEach [] X.env := by rfl)
    (hpl : (backTo pos (starEach [.Name y p2] X.env)).any (·.1) = false := by rfl) : PF X L (.Call (.Name "isinstance" p) [a, .Name y p2] [] pos) (fUn (bIsX tb) fa) :=
  PE_imp (pe_callB call_isV hg hm (by decide +kernel) (pa_cons ha (pa_cons (pe_bltn (v := .ty T) hgT hmT hbT rfl hnT hdT) pa_nil he2) he) (by decide) (by decide) he hpl) fun _ _ _ => isX_ok (fun u (e : RelV (.ty T) u) => e) hf
end
/-! ### list.count, list.index of truths -/
def mCountB : LM := fun xs ds k => match boolsOf xs, ds with
  | some bs, [.bool b] => k (.int (bs.count b : Nat)) xs
  | _, _ => False
def mIndexB : LM := fun xs ds k => match boolsOf xs, ds with
  | some bs, [.bool b] => b ∈ bs ∧ k (.int (bs.idxOf b : Nat)) xs
  | _, _ => False
theorem upd_back {H : Hp} {p : Addr} {o : HO} (h : H p = some o) : upd H p o = H := by
  funext b
  by_cases e : b = p
  · rw [e, upd_same, h]
  · rw [upd_ne e]
def eqkB (b : Bool) (v : Value) : Bool := match v with
  | .bool c => c == b
  | _ => false
theorem bools_count {b : Bool} : ∀ {bs : List Bool} {us : List Value}, Vals (bs.map V.bl) us → us.countP (eqkB b) = bs.count b
  | [], _, .nil => rfl
  | c :: bs, u :: us, .cons r rr => by
    have ih := bools_count (b := b) rr
    cases r
    rw [List.countP_cons, List.count_cons, ih]
    rfl
theorem bools_are : ∀ {bs : List Bool} {us : List Value}, Vals (bs.map V.bl) us → ∀ u ∈ us, ∃ c, u = Value.bool c
  | [], _, .nil, u, h => by cases h
  | c :: bs, u :: us, .cons r rr, v, h => by
    cases r
    rcases List.mem_cons.mp h with rfl | h
    · exact ⟨c, rfl⟩
    · exact bools_are rr v h
section
variable {X : Cx}
theorem fm_countB : MtR X "list.count" (rLm X.K mCountB) := by
  intro pins s σ H x us v vs Q I rx rv ⟨Z, p, ws, xs, ds, Qf, ex, hp, hl, ra, hz, rd, g, q⟩
  unfold mCountB at g
  split at g
  · rename_i bs b eb
    cases rd with
    | cons r1 r2 =>
      cases r2
      cases r1
      subst ex
      rw [boolsOf_eq eb] at ra
      rw [ra.bools] at hp
      cases rx
      obtain ⟨u, rfl, ru⟩ := rv.one
      cases ru
      obtain ⟨z, its, n, r, hl2, e⟩ := I.lstM hp
      refine call_meets PySem.F.slot_list_count ⟨_, e, rfl⟩ PySem.F.entry_list_count (PySem.F.args_list_count_2 _ _)
        (SeqAt.list_countAt p its.toArray n _ _ (.bool b) (eqkB b)) ⟨e, fun y hy => ?_, ?_⟩
      · obtain ⟨c, rfl⟩ := bools_are r y (by simpa using hy)
        exact SeqAt.EqAt.bool_bool c b
      · have ec : its.toArray.toList.countP (eqkB b) = bs.count b := bools_count r
        refine ⟨.int (bs.count b : Nat), H, I.tok _, ⟨s.toks, ?_⟩, ?_⟩
        · show Value.int ((its.toArray.toList.countP (eqkB b) : Nat) : Int) s.toks = Value.int ((bs.count b : Nat) : Int) s.toks
          rw [ec]
        · have q2 := q _ _ ws xs g (.int _) hl (by rw [boolsOf_eq eb]; exact ra)
          rw [ra.bools, upd_back hp] at q2
          exact q2
  · exact g.elim
theorem fm_indexB : MtR X "list.index" (rLm X.K mIndexB) := by
  intro pins s σ H x us v vs Q I rx rv ⟨Z, p, ws, xs, ds, Qf, ex, hp, hl, ra, hz, rd, g, q⟩
  unfold mIndexB at g
  split at g
  · rename_i bs b eb
    obtain ⟨gm, g⟩ := g
    cases rd with
    | cons r1 r2 =>
      cases r2
      cases r1
      have hj : bs.idxOf b < bs.length := List.idxOf_lt_length_of_mem gm
      have hx := boolsOf_eq eb
      have ra0 := ra
      rw [hx] at ra
      have hw := ra.bools
      have hp0 := hp
      rw [hw] at hp
      refine mt_index pins s σ H x _ v vs Q I rx rv ⟨p, bs.map V.bl, .bl b, bs.idxOf b, .bl b, ex, rfl, .inl (.inl hp), rfl, ?_, ?_, ?_, fun m z' hm e => ?_, ?_⟩
      · exact List.all_eq_true.mpr fun y hy => by
          obtain ⟨c, _, rfl⟩ := List.mem_map.mp hy
          rfl
      · rw [List.getElem?_map, List.getElem?_eq_getElem hj, List.getElem_idxOf]; rfl
      · exact beq_self_eq_true b
      · rw [List.getElem?_map] at e
        have hmb : m < bs.length := by omega
        rw [List.getElem?_eq_getElem hmb] at e
        cases e
        refine beq_eq_false_iff_ne.mpr fun e2 => ?_
        have := List.not_of_lt_findIdx (p := (· == b)) (xs := bs) (i := m) hm
        rw [e2] at this
        simp at this
      · have q2 := q _ _ ws xs g (.int _) hl ra0
        rw [upd_back hp0] at q2
        exact q2
  · exact g.elim
/-! ### what is never reached -/
def fUnkE : FE := fun _ _ _ => False
def fUnkS : FS := fun _ _ => False
variable {L : Lv} {e : Expr} {st : Stmt}
theorem pf_unk : PF X L e fUnkE := ⟨fun _ _ _ _ _ _ ⟨_, _, _, _, _, _, _, _, h, _⟩ => h.elim⟩
theorem pfs_unk : PFS X L st fUnkS := ⟨fun _ _ _ _ _ _ ⟨_, _, _, _, _, _, h, _⟩ => h.elim⟩
end
end Hs
/-! ### the facts about the classes of errors -/
namespace Hs
open PySem PySem.Spec PyProof.Rows L2
def excB (K : PySem.W.Frag) (D : Addr) : Bool :=
  decide (PySem.W.findIn K (.ref D) "__getattribute__" = some (some (.builtin "BaseException.__getattribute__"))) && (decide (PySem.W.findIn K (.ref D) "__getattr__" = some none) && (decide (PySem.W.subIn K (.ref D) (.type "BaseException") = some true) && (PySem.W.hasDictIn K D &&
    (decide (PySem.W.findIn K (.ref D) "__class__" = some (some (.builtin "object.__class__"))) && (decide (PySem.W.specialIn K (.builtin "object.__class__") "__get__" = some (some (.builtin "getset_descriptor.__get__"))) && (decide (PySem.W.takesIn K (.builtin "object.__class__") = some true) &&
      decide (PySem.W.mroIn K D (.type "object") = some true)))))))
theorem excB_ok {K : PySem.W.Frag} {D : Addr} (h : excB K D = true) : ExcC K D := by
  obtain ⟨h1, h⟩ := He.ba h
  obtain ⟨h2, h⟩ := He.ba h
  obtain ⟨h3, h⟩ := He.ba h
  obtain ⟨h4, h⟩ := He.ba h
  obtain ⟨h5, h⟩ := He.ba h
  obtain ⟨h6, h⟩ := He.ba h
  obtain ⟨h7, h8⟩ := He.ba h
  exact ⟨of_decide_eq_true h1, of_decide_eq_true h2, of_decide_eq_true h3, h4, of_decide_eq_true h5, of_decide_eq_true h6, of_decide_eq_true h7, of_decide_eq_true h8⟩
/-- what isinstance says of the errors of the classes named, asked for an own class, for a built-in one -/
inductive ExQ where
  | own (y : Str) (tb : List (Str × Bool))
  | ty (T : String) (tb : List (Str × Bool))
def ExQ.row (K : PySem.W.Frag) (cv : Value) (tb : List (Str × Bool)) : Bool := tb.all fun p => excB K (He.ga K p.1) && decide (PySem.W.kitOne K (.ref (He.ga K p.1)) cv = some p.2)
def ExQ.ok (K : PySem.W.Frag) : ExQ → Bool
  | .own y tb => ExQ.row K (.ref (He.ga K y)) tb
  | .ty T tb => ExQ.row K (.type T) tb
theorem lookup_mem {c : Str} {b : Bool} : ∀ {tb : List (Str × Bool)}, tb.lookup c = some b → (c, b) ∈ tb
  | [], h => by cases h
  | (d, e) :: tb, h => by
    rw [List.lookup_cons] at h
    cases q : (c == d) with
    | true =>
      rw [q] at h
      cases h
      rw [beq_iff_eq.mp q]
      exact List.mem_cons_self
    | false =>
      rw [q] at h
      exact List.mem_cons_of_mem _ (lookup_mem h)
theorem ExQ.row_ok {K : PySem.W.Frag} {cv : Value} {tb : List (Str × Bool)} (h : ExQ.row K cv tb = true) : ∀ c b, tb.lookup c = some b → ExcC K (He.ga K c) ∧ PySem.W.kitOne K (.ref (He.ga K c)) cv = some b := fun c b e => by
  obtain ⟨h1, h2⟩ := He.ba (List.all_eq_true.mp h (c, b) (lookup_mem e))
  exact ⟨excB_ok h1, of_decide_eq_true h2⟩
structure TxOkQ (fa : List He.Fa) (fn : List He.DefD) (exl : List ExQ) (K : PySem.W.Frag) (mg : Str → Option Value) (base : Heap) : Prop extends TxOk fa fn K mg base where
  q : (exl.all fun e => e.ok K) = true
section
variable {fa : List He.Fa} {fn : List He.DefD} {exl : List ExQ} {K : PySem.W.Frag} {mg : Str → Option Value} {base : Heap}
theorem TxOk.exm (T : TxOk fa fn K mg base) (i : Nat) {x y : Str} {b : Bool} (h : fa[i]? = some (.exm x y b) := by rfl) : PySem.W.exmOne K (.ref (He.ga K x)) (.ref (He.ga K y)) = some b := of_decide_eq_true (T.c.fact i h)
theorem TxOkQ.isOwn (T : TxOkQ fa fn exl K mg base) (i : Nat) {y : Str} {tb : List (Str × Bool)} (h : exl[i]? = some (.own y tb) := by rfl) : ∀ c b, tb.lookup c = some b → ExcC K (He.ga K c) ∧ PySem.W.kitOne K (.ref (He.ga K c)) (.ref (He.ga K y)) = some b :=
  ExQ.row_ok (List.all_eq_true.mp T.q _ (List.mem_of_getElem? h))
theorem TxOkQ.isTy (T : TxOkQ fa fn exl K mg base) (i : Nat) {y : String} {tb : List (Str × Bool)} (h : exl[i]? = some (.ty y tb) := by rfl) : ∀ c b, tb.lookup c = some b → ExcC K (He.ga K c) ∧ PySem.W.kitOne K (.ref (He.ga K c)) (.type y) = some b :=
  ExQ.row_ok (List.all_eq_true.mp T.q _ (List.mem_of_getElem? h))
end
abbrev AlQ : Type := He.AlD × Bool
def obsQ (n : Nat) (fa : List He.Fa) (fn : List He.DefD) (exl : List ExQ) (g : Addr → Option Obj) : AlQ := (He.obsDG n fa fn g, exl.all fun e => e.ok (He.frG g (He.asD g n)))
def hookQ (n : Nat) (fa : List He.Fa) (fn : List He.DefD) (exl : List ExQ) : PySem.W.Hook where
  α := AlQ
  obs := fun s => obsQ n fa fn exl s.heap.get?
  val := fun _ => (He.valD fn, true)
  says := fun _ h => ∃ K : PySem.W.Frag, K.In h ∧ He.SaysD fa fn K ∧ (exl.all fun e => e.ok K) = true
  of := fun _ _ e => ⟨_, He.frG_in, congrArg Prod.fst e, congrArg Prod.snd e⟩
  keeps := fun _ _ _ ⟨K, hK, c⟩ k => ⟨K, PySem.W.Frag.In.keeps hK k, c⟩
theorem obsQ_eq {n : Nat} {fa : List He.Fa} {fn : List He.DefD} {exl : List ExQ} {g : Addr → Option Obj} {s : Shared} (h : ∀ a, g a = s.heap.get? a) : obsQ n fa fn exl g = (hookQ n fa fn exl).obs s := by
  have e : g = s.heap.get? := funext h
  rw [e] <;> rfl
theorem mem_cons' {α : Type} {p : α → Prop} {a : α} {l : List α} (h1 : p a) (h2 : ∀ x ∈ l, p x) : ∀ x ∈ a :: l, p x := List.forall_mem_cons.mpr ⟨h1, h2⟩
theorem mem_nil' {α : Type} {p : α → Prop} : ∀ x ∈ ([] : List α), p x := fun x h => nomatch h
/-! ### steps -/
theorem st_isX {tb : List (Str × Bool)} {c : Str} {b : Bool} {k : R → Prop} (e : tb.lookup c = some b) (h : k (.d (.bool b))) : bIsX tb (excD c) k := by
  show (match tb.lookup c with
    | some b => k (.d (.bool b))
    | none => False)
  rw [e]; exact h
theorem st_countB {bs : List Bool} {b : Bool} {kk : D → List D → Prop} (h : kk (.int (bs.count b : Nat)) (bs.map .bool)) : mCountB (bs.map .bool) [.bool b] kk := by
  unfold mCountB
  rw [boolsOf_map]
  exact h
theorem st_indexB {bs : List Bool} {b : Bool} {kk : D → List D → Prop} (m : b ∈ bs) (h : kk (.int (bs.idxOf b : Nat)) (bs.map .bool)) : mIndexB (bs.map .bool) [.bool b] kk := by
  unfold mIndexB
  rw [boolsOf_map]
  exact ⟨m, h⟩
theorem st_try {ns : List Str} {i : Nat} {body suite : FS} {E : FEnds} {s : S}
    (h : body ⟨E.nx, E.rt, E.bk, E.ct, fun n s1 => n ∈ ns ∧ suite ⟨fun s2 => E.nx (s2.set i .no), E.rt, fun s2 => E.bk (s2.set i .no), fun s2 => E.ct (s2.set i .no), fun _ _ => False⟩ (s1.set i (.d (excD n)))⟩ s) : fTry ns i body suite E s := h
end Hs
/-! ### {} -/
namespace Hs
open PySem PySem.Spec PyProof.Rows L2
def fEmD : FE := fun _ s Q => Q (.own (.dc [])) s
theorem pf_emD {X : Cx} {L : Lv} {pos : Pos} : PF X L (.Dict [] [] pos) fEmD := PE_imp pe_dnewK fun σ H Q ⟨Z, Y, s, Xf, Qf, r, k, xo, h, q⟩ p hp =>
  q _ _ Z (.own (.dc [])) s (Same.refl _) (.own r.len (r.newDc hp (.inl ⟨[], upd_same, .nil⟩))) h
theorem st_emD {X : XF} {s : S} {Q : R → S → Prop} (h : Q (.own (.dc [])) s) : fEmD X s Q := h
end Hs
/-! ### a call without arguments -/
namespace Hs
open PySem PySem.Spec PyProof.Rows L2
section
variable {X : Cx} {L : Lv} {x : Str} {p pos : Pos} {k : Nat}
theorem pf_callD0 {sem : FSem} (D : Df X.prog X.w X.K X.mg X.base x k [] [] sem) (hr : Room k X.A) (hx : ∀ σ, PassesAt (L2.CX X.prog X.w) X σ (fun cls d H => L.E cls d σ H)) (hg : Gl X x := by rfl) (hdb : (x == ("__debug__" : Str)) = false := by decide) :
    PF X L (.Call (.Name x p) [] [] pos) (fCall sem [] fNil) := by
  obtain ⟨f, fd, F, hb, hm, hk⟩ := D
  refine ⟨fun pins s σ H Q I h => ?_⟩
  have h2 := fCall_ok (n := 0) rfl h
  obtain ⟨Z, Y, s', Xf, Qf, r, kk, xo, h3, q⟩ := h2
  have h4 := q [] H Z [] s' (Same.refl _) (.nil r) rfl h3
  refine wpAny_Call_Name_kw (ld_glob I hg hm ?_ hdb)
  exact PySem.W.callWith_K0 I.kIn hk (run_fnSD (E := fun σ cls d H => L.E cls d σ H) F hr hb .nil (hx σ) I .nil h4)
end
end Hs
/-! HsQ: dicts that are read and written (keys ints and texts, or tuples of such: these begin with a mark). -/
namespace Hs
open PySem PySem.Spec PyProof.Rows L2

def keyN : D → Option Key
  | .int i => some (.inl i)
  | .str x => some (.inr x)
  | _ => none
def keysN : List D → Option (List Key)
  | [] => some []
  | d :: r => match keyN d, keysN r with
    | some k, some ks => some (k :: ks)
    | _, _ => none
theorem keyN_keyD (k : Key) : keyN (keyD k) = some k := by cases k <;> rfl
theorem keysN_map : ∀ ks : List Key, keysN (ks.map keyD) = some ks
  | [] => rfl
  | k :: ks => by rw [List.map_cons, keysN, keyN_keyD, keysN_map ks]
theorem keyN_eq {d : D} {k : Key} (h : keyN d = some k) : d = keyD k := by
  cases d <;> simp only [keyN] at h <;> cases h <;> rfl
theorem keysN_eq : ∀ {ds : List D} {ks : List Key}, keysN ds = some ks → ds = ks.map keyD
  | [], ks, h => by cases h; rfl
  | d :: r, ks, h => by
    unfold keysN at h
    cases e : keyN d with
    | none => rw [e] at h; cases h
    | some k =>
      cases e2 : keysN r with
      | none => rw [e, e2] at h; cases h
      | some l =>
        rw [e, e2] at h
        cases h
        rw [keyN_eq e, keysN_eq e2]; rfl
def sameN (d : D) (k : Key) : Bool := decide (keyN d = some k)
def sameT (d : D) (k : List Key) : Bool := match d with
  | .tuple ds => decide (keysN ds = some k)
  | _ => false
theorem sameN_keyD (j k : Key) : sameN (keyD j) k = decide (j = k) := by
  unfold sameN
  rw [keyN_keyD]
  by_cases h : j = k
  · subst h; simp
  · rw [decide_eq_false h, decide_eq_false (fun e => h (Option.some.inj e))]
theorem sameT_keysD (j k : List Key) : sameT (keysD j) k = decide (j = k) := by
  unfold sameT keysD
  dsimp only
  rw [keysN_map]
  by_cases h : j = k
  · subst h; simp
  · rw [decide_eq_false h, decide_eq_false (fun e => h (Option.some.inj e))]
/-- what a dict holds -/
def dGet (kvs : List (D × D)) (k : D) (Q : Option D → Prop) : Prop := match kvs with
  | (.none, .none) :: r => match k with
    | .tuple ds => match keysN ds with
      | some ks => Q ((r.find? fun p => sameT p.1 ks).map (·.2))
      | none => False
    | _ => False
  | (.none, _) :: _ => False
  | kvs => match keyN k with
    | some k' => Q ((kvs.find? fun p => sameN p.1 k').map (·.2))
    | none => False
def putN (kvs : List (D × D)) (k : Key) (x : D) : List (D × D) :=
  if (kvs.any fun p => sameN p.1 k) = true then kvs.map (fun p => if sameN p.1 k = true then (p.1, x) else p) else kvs ++ [(keyD k, x)]
def putT (kvs : List (D × D)) (k : List Key) (x : D) : List (D × D) :=
  if (kvs.any fun p => sameT p.1 k) = true then kvs.map (fun p => if sameT p.1 k = true then (p.1, x) else p) else kvs ++ [(keysD k, x)]
def dPut (kvs : List (D × D)) (k x : D) (Q : List (D × D) → Prop) : Prop := match kvs with
  | (.none, .none) :: r => match k with
    | .tuple ds => match keysN ds with
      | some ks => r.length < sizeLine ∧ Q ((.none, .none) :: putT r ks x)
      | none => False
    | _ => False
  | (.none, _) :: _ => False
  | kvs => match keyN k with
    | some k' => kvs.length < sizeLine ∧ Q (putN kvs k' x)
    | none => False
section
variable {K : PySem.W.Frag} {Z H : Hp}
def OptR (K : PySem.W.Frag) (H : Hp) (v : Option V) (d : Option D) : Prop := match v, d with
  | none, none => True
  | some v, some d => Rp K H v d
  | _, _ => False
theorem RpK.get (k : Key) : ∀ {ks : List (Key × V)} {kvs : List (D × D)}, RpK K H ks kvs → OptR K H (valV ks k) ((kvs.find? fun p => sameN p.1 k).map (·.2))
  | _, _, .nil => True.intro
  | _, _, .cons (k := j) (ks := ks) h r => by
    rw [List.find?_cons]
    dsimp only
    rw [sameN_keyD]
    by_cases e : j = k
    · rw [decide_eq_true e, valV_pos (p := (j, _)) e]
      exact h
    · rw [decide_eq_false e, valV_neg (p := (j, _)) e]
      exact RpK.get k r
theorem RpT.get (k : List Key) : ∀ {ks : List (List Key × V)} {kvs : List (D × D)}, RpT K H ks kvs → OptR K H (valV ks k) ((kvs.find? fun p => sameT p.1 k).map (·.2))
  | _, _, .nil => True.intro
  | _, _, .cons (k := j) (ks := ks) h r => by
    rw [List.find?_cons]
    dsimp only
    rw [sameT_keysD]
    by_cases e : j = k
    · rw [decide_eq_true e, valV_pos (p := (j, _)) e]
      exact h
    · rw [decide_eq_false e, valV_neg (p := (j, _)) e]
      exact RpT.get k r
theorem RpK.any (k : Key) : ∀ {ks : List (Key × V)} {kvs : List (D × D)}, RpK K H ks kvs → (ks.any fun kv => decide (kv.1 = k)) = kvs.any fun p => sameN p.1 k
  | _, _, .nil => rfl
  | _, _, .cons (k := j) h r => by rw [List.any_cons, List.any_cons, RpK.any k r, sameN_keyD]
theorem RpT.any (k : List Key) : ∀ {ks : List (List Key × V)} {kvs : List (D × D)}, RpT K H ks kvs → (ks.any fun kv => decide (kv.1 = k)) = kvs.any fun p => sameT p.1 k
  | _, _, .nil => rfl
  | _, _, .cons (k := j) h r => by rw [List.any_cons, List.any_cons, RpT.any k r, sameT_keysD]
theorem RpK.repl (k : Key) {v : V} {x : D} (rv : Rp K H v x) : ∀ {ks : List (Key × V)} {kvs : List (D × D)}, RpK K H ks kvs → RpK K H (ks.map fun kv => if kv.1 = k then (kv.1, v) else kv) (kvs.map fun p => if sameN p.1 k = true then (p.1, x) else p)
  | _, _, .nil => .nil
  | _, _, .cons (k := j) h r => by
    rw [List.map_cons, List.map_cons]
    dsimp only
    rw [sameN_keyD]
    by_cases e : j = k
    · rw [if_pos e, if_pos (decide_eq_true e)]
      exact .cons rv (RpK.repl k rv r)
    · rw [if_neg e, if_neg (by simpa using e)]
      exact .cons h (RpK.repl k rv r)
theorem RpT.repl (k : List Key) {v : V} {x : D} (rv : Rp K H v x) : ∀ {ks : List (List Key × V)} {kvs : List (D × D)}, RpT K H ks kvs → RpT K H (ks.map fun kv => if kv.1 = k then (kv.1, v) else kv) (kvs.map fun p => if sameT p.1 k = true then (p.1, x) else p)
  | _, _, .nil => .nil
  | _, _, .cons (k := j) h r => by
    rw [List.map_cons, List.map_cons]
    dsimp only
    rw [sameT_keysD]
    by_cases e : j = k
    · rw [if_pos e, if_pos (decide_eq_true e)]
      exact .cons rv (RpT.repl k rv r)
    · rw [if_neg e, if_neg (by simpa using e)]
      exact .cons h (RpT.repl k rv r)
theorem RpK.snoc {k : Key} {v : V} {x : D} (rv : Rp K H v x) : ∀ {ks : List (Key × V)} {kvs : List (D × D)}, RpK K H ks kvs → RpK K H (ks ++ [(k, v)]) (kvs ++ [(keyD k, x)])
  | _, _, .nil => .cons rv .nil
  | _, _, .cons h r => .cons h (RpK.snoc rv r)
theorem RpT.snoc {k : List Key} {v : V} {x : D} (rv : Rp K H v x) : ∀ {ks : List (List Key × V)} {kvs : List (D × D)}, RpT K H ks kvs → RpT K H (ks ++ [(k, v)]) (kvs ++ [(keysD k, x)])
  | _, _, .nil => .cons rv .nil
  | _, _, .cons h r => .cons h (RpT.snoc rv r)
theorem RpK.put (k : Key) {v : V} {x : D} (rv : Rp K H v x) {ks : List (Key × V)} {kvs : List (D × D)} (r : RpK K H ks kvs) : RpK K H (putK ks k v) (putN kvs k x) := by
  unfold putK putN
  rw [r.any k]
  split
  · exact r.repl k rv
  · exact r.snoc rv
theorem RpT.put (k : List Key) {v : V} {x : D} (rv : Rp K H v x) {ks : List (List Key × V)} {kvs : List (D × D)} (r : RpT K H ks kvs) : RpT K H (putK ks k v) (putT kvs k x) := by
  unfold putK putT
  rw [r.any k]
  split
  · exact r.repl k rv
  · exact r.snoc rv
theorem RpK.length : ∀ {ks : List (Key × V)} {kvs : List (D × D)}, RpK K H ks kvs → ks.length = kvs.length
  | _, _, .nil => rfl
  | _, _, .cons _ r => congrArg (· + 1) (RpK.length r)
theorem RpT.length : ∀ {ks : List (List Key × V)} {kvs : List (D × D)}, RpT K H ks kvs → ks.length = kvs.length
  | _, _, .nil => rfl
  | _, _, .cons _ r => congrArg (· + 1) (RpT.length r)
theorem RpK.mark {ks : List (Key × V)} {x : D} {r : List (D × D)} (h : RpK K H ks ((.none, x) :: r)) : False := h.nolit
/-- a dict that is looked at -/
theorem RpV.dict {v : V} {kvs : List (D × D)} (r : RpV K Z H v (.dict kvs)) (e : Same Z H) : (∃ p ks, v = .ref p ∧ Rd H p (.dK ks) ∧ RpK K Z ks kvs) ∨ (∃ p ks kvs', v = .ref p ∧ kvs = (.none, .none) :: kvs' ∧ H p = some (.dT ks) ∧ RpT K Z ks kvs') ∨ ∃ x r, kvs = (.none, x) :: r ∧ x ≠ .none := by
  rcases r with r | ⟨p, vs, xs', rfl, e2, h, z, a⟩ | ⟨p, kvs', rfl, e2, h⟩
  · generalize e0 : (PyData.dict kvs) = d at r
    cases r with
    | dcK h a => cases e0; exact .inl ⟨_, _, rfl, same_rd e h, a⟩
    | dcT h a => cases e0; exact .inr (.inl ⟨_, _, _, rfl, rfl, e _ _ h, a⟩)
    | lit h z => cases e0; exact .inr (.inr ⟨_, _, rfl, fun z => nomatch z⟩)
    | exc h => cases e0; exact .inr (.inr ⟨_, _, rfl, fun z => nomatch z⟩)
    | obj h1 h2 a => cases e0; exact .inr (.inr ⟨_, _, rfl, fun z => nomatch z⟩)
    | _ => cases e0
  · cases e2
  · cases e2
    rcases h with ⟨ks, e1, r⟩ | ⟨ks, kvs', e0, e1, r⟩
    · exact .inl ⟨_, _, rfl, .inl e1, r⟩
    · exact .inr (.inl ⟨_, _, _, rfl, e0, e1, r⟩)
theorem RpV.key {v : V} {k : Key} (r : RpV K Z H v (keyD k)) : v = kV k := by
  cases k with
  | inl i => exact RpV.int r
  | inr x => exact RpV.str r
theorem RpAll.keys : ∀ {vs : List V} {ks : List Key}, RpAll K Z vs (ks.map keyD) → vs = ks.map kV
  | _, [], .nil => rfl
  | _, k :: ks, .cons h a => by
    rw [RpAll.keys a, RpV.key (H := Z) (.inl h)]; rfl
theorem RpV.keys {v : V} {ks : List Key} (r : RpV K Z H v (.tuple (ks.map keyD))) (e : Same Z H) : ∃ b, v = .ref b ∧ H b = some (.tup (ks.map kV)) := by
  have r := fop_add.RpV.tupZ r
  cases r with
  | tup h z a =>
    rw [a.keys] at h
    exact ⟨_, rfl, e _ _ h⟩
/-- what a dict holds, looked up -/
theorem dGet_ok {x y : V} {kvs : List (D × D)} {k : D} {Q : Option D → Prop} (e : Same Z H) (hx : RpV K Z H x (.dict kvs)) (hy : RpV K Z H y k) (h : dGet kvs k Q) : ∃ a o d, x = .ref a ∧ DGet H a y o ∧ OptR K Z o d ∧ Q d := by
  unfold dGet at h
  rcases hx.dict e with ⟨p, ks, rfl, hp, r⟩ | ⟨p, ks, kvs', rfl, rfl, hp, r⟩ | ⟨x0, r, rfl, hxn⟩
  · split at h
    · exact r.mark.elim
    · exact r.mark.elim
    · split at h
      · rename_i k' ek
        rw [keyN_eq ek] at hy
        exact ⟨p, _, _, rfl, .inl ⟨ks, k', hp, hy.key, rfl⟩, r.get k', h⟩
      · exact h.elim
  · dsimp only at h
    split at h
    · split at h
      · rename_i ds ks' ek
        rw [keysN_eq ek] at hy
        obtain ⟨b, rfl, hb⟩ := hy.keys e
        exact ⟨p, _, _, rfl, .inr ⟨ks, ks', b, .inl hp, rfl, hb, rfl⟩, r.get ks', h⟩
      · exact h.elim
    · exact h.elim
  · split at h
    · rename_i e1
      cases e1
      exact (hxn rfl).elim
    · exact h.elim
    · rename_i h1 h2
      exact (h2 _ _ rfl).elim
end
theorem OptR.isSome {K : PySem.W.Frag} {H : Hp} {o : Option V} {d : Option D} (r : OptR K H o d) : o.isSome = d.isSome := by
  cases o <;> cases d <;> first | rfl | exact r.elim
theorem _root_.L2.Room.u1 {k : Nat} {A : Around} (r : Room k A) : A.units + 1 < cLine := by have := r.un; omega
section
variable {X : Cx} {L : Lv} {e a b c : Expr} {es : List Expr} {fa fb fc fj fx : FE} {ft : FT} {fr : FA} {pos p : Pos}
/-- d[k], xs[k] -/
def ixD2 : V2 := fun d e Q => ixD d e Q ∨ ∃ kvs, d = .dict kvs ∧ dGet kvs e fun o => ∃ x, o = some x ∧ Q (.d x)
theorem fix_d2 (hu : X.A.units + 1 < cLine) : IxR X (rF2 X.K ixD2) := by
  intro value slice pins s σ H x y v u Q I rx ry ⟨Z, d, e, Qf, hz, hd, he, g, q⟩ hpl
  rcases g with g | ⟨kvs, rfl, g⟩
  · exact fix_d value slice pins s σ H x y v u Q I rx ry ⟨Z, d, e, Qf, hz, hd, he, g, q⟩ hpl
  · obtain ⟨a, o, d, rfl, dg, ro, z, rfl, g⟩ := dGet_ok hz hd he g
    cases o with
    | none => exact ro.elim
    | some w =>
      obtain rfl : v = Value.ref a := rx
      exact tail_any (dict_typeIs I dg) PySem.F.slot_dict_getitem.lookup (d_getItem hu I dg ry fun w' s' I' rw' => ⟨w, H, I', rw', q w H Z _ (.d hz ro) g⟩) hpl
/-- k in d, k in xs -/
def cInK : V2 := fun d e Q => cIn d e Q ∨ ∃ kvs, e = .dict kvs ∧ dGet kvs d fun o => Q (.d (.bool o.isSome))
def cNotInK : V2 := fun d e Q => cNotIn d e Q ∨ ∃ kvs, e = .dict kvs ∧ dGet kvs d fun o => Q (.d (.bool (!o.isSome)))
theorem fop_inK (hu : X.A.units + 65 < cLine) : OpR X (compareOp .In) (rF2 X.K cInK) := by
  intro pins s σ H x y v u Q I rx ry ⟨Z, d, e, Qf, hz, hd, he, g, q⟩
  rcases g with g | ⟨kvs, rfl, g⟩
  · exact fop_in hu pins s σ H x y v u Q I rx ry ⟨Z, d, e, Qf, hz, hd, he, g, q⟩
  · obtain ⟨a, o, d, rfl, dg, ro, g⟩ := dGet_ok hz he hd g
    obtain rfl : u = Value.ref a := ry
    exact d_in (by omega) I dg rx fun s' I' => ⟨.bl o.isSome, H, I', rfl, by rw [ro.isSome]; exact q _ H Z _ (.d hz (.bl _)) g⟩
theorem fop_notInK (hu : X.A.units + 65 < cLine) : OpR X (compareOp .NotIn) (rF2 X.K cNotInK) := by
  intro pins s σ H x y v u Q I rx ry ⟨Z, d, e, Qf, hz, hd, he, g, q⟩
  rcases g with g | ⟨kvs, rfl, g⟩
  · exact fop_notIn hu pins s σ H x y v u Q I rx ry ⟨Z, d, e, Qf, hz, hd, he, g, q⟩
  · obtain ⟨a, o, d, rfl, dg, ro, g⟩ := dGet_ok hz he hd g
    obtain rfl : u = Value.ref a := ry
    exact d_notIn (by omega) I dg rx fun s' I' => ⟨.bl (!o.isSome), H, I', rfl, by rw [ro.isSome]; exact q _ H Z _ (.d hz (.bl _)) g⟩

/-! ### a slot's own dict -/
def onDc (i : Nat) (s : S) (k : List (D × D) → Prop) : Prop := match s.getD i .no with
  | .dc kvs => k kvs
  | _ => False
theorem onDc_ok {i : Nat} {s : S} {k : List (D × D) → Prop} (h : onDc i s k) : ∃ kvs, s.getD i .no = .dc kvs ∧ k kvs := by
  unfold onDc at h
  generalize s.getD i .no = w at h
  cases w with
  | dc kvs => exact ⟨kvs, rfl, h⟩
  | _ => exact h.elim
theorem Rel.slotDc {K : PySem.W.Frag} {Z Y H : Hp} {σ : St} {s : S} (r : Rel K Z Y H σ s) {i : Nat} {kvs : List (D × D)} (e : s.getD i .no = .dc kvs) : ∃ p, σ.getD i none = some (.ref p) ∧ DcAt K Z H p kvs := by
  obtain ⟨F, q⟩ := r.slot i
  rw [e] at q
  obtain ⟨p, h1, _, h3⟩ := q
  exact ⟨p, h1, h3⟩
theorem dPut_ok {K : PySem.W.Frag} {Z H : Hp} {p : Addr} {kvs : List (D × D)} {y v : V} {k x : D} {Q : List (D × D) → Prop} (e : Same Z H) (hd : DcAt K Z H p kvs) (hy : RpV K Z H y k) (rv : Rp K Z v x) (h : dPut kvs k x Q) :
    ∃ ob kvs', DPut H p y v (upd H p ob) ∧ DcAt K Z (upd H p ob) p kvs' ∧ Q kvs' := by
  unfold dPut at h
  rcases hd with ⟨ks, hp, r⟩ | ⟨ks, kvs', rfl, hp, r⟩
  · split at h
    · exact r.mark.elim
    · exact r.mark.elim
    · split at h
      · rename_i k' ek
        rw [keyN_eq ek] at hy
        refine ⟨_, _, .inl ⟨ks, k', hp, hy.key, by rw [r.length]; exact h.1, rfl⟩, .inl ⟨_, upd_same, r.put k' rv⟩, h.2⟩
      · exact h.elim
  · dsimp only at h
    split at h
    · split at h
      · rename_i ds ks' ek
        rw [keysN_eq ek] at hy
        obtain ⟨b, rfl, hb⟩ := hy.keys e
        exact ⟨_, _, .inr ⟨ks, ks', b, hp, rfl, hb, by rw [r.length]; exact h.1, rfl⟩, .inr ⟨_, _, rfl, upd_same, r.put ks' rv⟩, h.2⟩
      · exact h.elim
    · exact h.elim
/-- d[k] = x -/
def fSetD (i : Nat) (j a : FE) : FS := fun E s => a E.xx s fun r s1 => onDc i s1 fun _ => j E.xx s1 fun rj s2 => frzAll [r, rj] s2 fun ds s3 => match ds with
  | [d, k] => onDc i s3 fun kvs => dPut kvs k d fun kvs' => E.nx (s3.set i (.dc kvs'))
  | _ => False
variable {y : Str} {px : Pos}
theorem pfs_setD (i : Nat) {po : Pos} {j : Expr} (hu : X.A.units + 1 < cLine) (he : PF X L e fa) (ho : PE X (.Name y px) (tVar i)) (hj : PF X L j fj)
    (hs : swapsWith e (some (.Subscript (.Name y px) j po)) pos.line X.env = pure false := by rfl) : PFS X L (.Assign [.Subscript (.Name y px) j po] e pos) (fSetD i fj fa) :=
  PS_imp (ps_dput hu ho hj he hs) fun D σ H ⟨Z, Y, s, Ef, r, k, h, eo⟩ => by
  refine ⟨Z, Y, s, Ef.xx, _, r, k, eo.xx, h, fun v H1 Z1 r1 s1 hz rx h1 => ?_⟩
  obtain ⟨kvs0, e0, h1⟩ := onDc_ok h1
  obtain ⟨q, hv, _⟩ := rx.rel0.slotDc e0
  obtain ⟨Y', hy, rl, bk, fw⟩ := rx.frame
  refine ⟨.ref q, getD_some hv, Z1, Y', s1, Ef.xx, _, rl, k, (eo.xx.z hz).mono (Same.refl _) bk, h1, fun w H2 Z2 rj s2 hz2 rx2 h2 => ?_⟩
  have rx3 := fw Z2 H2 s2 [w] [rj] hz2 rx2
  obtain ⟨Z3, ds, s3, hz3, rx4, h3⟩ := frzAll_ok (us := []) (ds := []) rx3 rfl h2
  have ra := rx4.rps
  split at h3
  · obtain ⟨kvs, e2, h4⟩ := onDc_ok h3
    obtain ⟨q', hv', hd⟩ := rx4.rel0.slotDc e2
    rw [hv] at hv'
    cases hv'
    cases ra with
    | cons rd ra =>
      cases ra with
      | cons rk _ =>
        obtain ⟨ob, kvs', dp, dc, h5⟩ := dPut_ok rx4.rel0.zh hd (.inl rk) rd h4
        exact ⟨q, _, rfl, dp, eo.nx σ _ Z3 _ ((hz.trans hz2).trans hz3) k (rx4.rel0.writeDc e2 hv dc) h5⟩
  · exact h3.elim
/-- d.get(k, x) -/
def fDGet2 (i : Nat) (j x : FE) : FE := fun X s Q => onDc i s fun _ => j X s fun rj s1 => x X s1 fun rx s2 => frzAll [rj, rx] s2 fun ds s3 => match ds with
  | [k, d] => onDc i s3 fun kvs => dGet kvs k fun o => Q (.d (o.getD d)) s3
  | _ => False
theorem pf_dget2 (i : Nat) {apos cpos : Pos} {j x : Expr} (hu : X.A.units + 1 < cLine) (ho : PE X (.Name y px) (tVar i)) (hj : PF X L j fj) (hx : PF X L x fx) (m : M2 X (.Name y px) "get" apos j x cpos) :
    PF X L (.Call (.Attribute (.Name y px) "get" apos) [j, x] [] cpos) (fDGet2 i fj fx) := PE_imp (pe_dget2 hu ho hj hx m) fun σ H Q ⟨Z, Y, s, Xf, Qf, r, k, xo, h, q⟩ => by
  obtain ⟨kvs0, e0, h⟩ := onDc_ok h
  obtain ⟨p, hv, hd0⟩ := r.slotDc e0
  refine ⟨.ref p, getD_some hv, p, rfl, ?_, Z, Y, s, Xf, _, r, k, xo, h, fun y H1 Z1 rj s1 hz rx h1 => ?_⟩
  · rcases hd0 with ⟨ks, e1, _⟩ | ⟨ks, _, _, e1, _⟩
    · exact .inl ⟨ks, .inl e1⟩
    · exact .inr ⟨ks, .inl e1⟩
  obtain ⟨Y', hy, rl, bk, fw⟩ := rx.frame
  refine ⟨Z1, Y', s1, Xf, _, rl, k, (xo.z hz).mono (Same.refl _) bk, h1, fun z H2 Z2 rz s2 hz2 rx2 h2 => ?_⟩
  have rx3 := fw Z2 H2 s2 [z] [rz] hz2 rx2
  obtain ⟨Z3, ds, s3, hz3, rx4, h3⟩ := frzAll_ok (us := []) (ds := []) rx3 rfl h2
  have ra := rx4.rps
  split at h3
  · obtain ⟨kvs, e2, h4⟩ := onDc_ok h3
    obtain ⟨q', hv', hd⟩ := rx4.rel0.slotDc e2
    rw [hv] at hv'
    cases hv'
    cases ra with
    | cons rk ra =>
      cases ra with
      | cons rd _ =>
        obtain ⟨a, o, d, e5, dg, ro, h5⟩ := dGet_ok (K := X.K) rx4.rel0.zh (.inr (.inr ⟨p, kvs, rfl, rfl, hd⟩)) (.inl rk) h4
        cases e5
        refine ⟨o, dg, q _ H2 Z3 _ s3 ((hz.trans hz2).trans hz3) (.d rx4.rel0 ?_) h5⟩
        cases o <;> cases d <;> first | exact rd | exact ro | exact ro.elim
  · exact h3.elim
theorem NewR.dc {K : PySem.W.Frag} {Z H : Hp} {p : Addr} {o : HO} {kvs : List (D × D)} (e : Same Z H) (hp : H p = none) (h : DcAt K Z (upd H p o) p kvs) : NewR K Z H Z (upd H p o) (.ref p) (.own (.dc kvs)) :=
  ⟨same_upd hp, Same.refl _, e.trans (same_upd hp), fun _ _ => rfl, [p], ⟨p, rfl, rfl, h⟩, by simp, fun a ha => by
    obtain rfl : a = p := by simpa using ha
    exact ⟨hp, e.free hp⟩⟩
/-- dict(d) -/
def bDict : VN := fun ds Q => match ds with
  | [.dict kvs] => match kvs with
    | (.none, _) :: _ => False
    | kvs => Q (.own (.dc kvs))
  | _ => False
theorem fb_dict : CallR X (.type "dict") (rFN X.K bDict) := by
  intro pins s σ H vs us Q I rv ⟨Z, ds, Qf, hz, rr, g, q⟩
  unfold bDict at g
  split at g
  · obtain ⟨v, rfl, r1⟩ := rr.one
    split at g
    · exact g.elim
    · rename_i kvs hn
      rcases r1.dict hz with ⟨p, ks, rfl, hp, r⟩ | ⟨p, ks, kvs', rfl, rfl, hp, r⟩ | ⟨x0, r, rfl, hxn⟩
      · refine call_dictD pins s σ H _ us Q I rv ⟨p, ks, rfl, hp, fun n hn => q _ _ Z _ (NewR.dc hz hn (.inl ⟨ks, upd_same, r⟩)) g⟩
      · exact (hn _ _ rfl).elim
      · exact (hn _ _ rfl).elim
  · exact g.elim
/-! ### range(a, b, -1) -/
def downD (hi : Int) (n : Nat) : List D := (List.range n).map fun (k : Nat) => PyData.int (hi - (k : Int))
theorem downD_len {hi : Int} {n : Nat} : (downD hi n).length = n := by unfold downD; rw [List.length_map, List.length_range]
theorem downD_get {hi : Int} {n i : Nat} (h : i < n) : (downD hi n)[i]? = some (.int (hi - (i : Int))) := by
  unfold downD
  rw [List.getElem?_map, List.getElem?_range h]; rfl
theorem walks_down {K : PySem.W.Frag} {Z : Hp} {hi : Int} {n : Nat} : Walks K Z (Itc hi (-1) n) (downD hi n) where
  stop := fun i H e h => by rw [downD_len] at h; exact h
  go := fun i H e h => by rw [downD_len] at h; exact h
  yld := fun i H v H' Zc e1 e2 h ⟨eh, hv⟩ => by
    subst eh hv
    rw [downD_len] at h
    exact ⟨_, Zc, downD_get h, .d e2 (by rw [show hi + (i : Int) * (-1) = hi - (i : Int) by omega]; exact .int _)⟩
def iRange3 (a : FA) : FI := fun X s Q => a X s fun rs s2 => match rs with
  | [.d (.int i), .d (.int j), .d (.int c)] => c = -1 ∧ lim62 i ∧ lim62 j ∧ Q (downD i (i - j).toNat) s2
  | _ => False
theorem pfi_range3 {tg : Expr} (hg : Gl X "range") (hm : X.mg "range" = none) (ha : PFA X L [a, b, c] fr) (hs : starEach [a, b, c] X.env = (false, eval a X.env) :: starEach [b, c] X.env := by rfl) (hpl : (backTo pos (starEach [b, c] X.env)).any (·.1) = false := by rfl) :
    PFI X L tg (.Call (.Name "range" p) [a, b, c] [] pos) (iRange3 fr) := PI_imp (pi_range3 hg hm ha hs hpl) fun σ H R ⟨Z, Y, s, Xf, Qf, r, k, xo, h, q⟩ => by
  refine ⟨Z, Y, s, Xf, _, r, k, xo, h, fun vs H1 Z1 rs s1 hz rx hn h1 => ?_⟩
  split at h1
  · rename_i i j cc
    obtain ⟨rfl, hi, hj, h2⟩ := h1
    have rv := RelX.rps (ds := [.int i, .int j, .int (-1)]) rx
    cases rv with
    | cons r1 r2 =>
      cases r2 with
      | cons r2 r3 =>
        cases r3 with
        | cons r3 r4 =>
          cases r1; cases r2; cases r3; cases r4
          exact ⟨i, j, -1, _, rfl, RgC.neg hi.1 hi.2 hj.1 hj.2, q _ H1 Z1 s1 _ hz rx.rel0 walks_down h2⟩
  · exact h1.elim
/-! ### {} -/
def fEmT : FE := fun _ s Q => Q (.own (.dc [(.none, .none)])) s
theorem pf_emT : PF X L (.Dict [] [] pos) fEmT := PE_imp pe_dnewT fun σ H Q ⟨Z, Y, s, Xf, Qf, r, k, xo, h, q⟩ p hp =>
  q _ _ Z (.own (.dc [(.none, .none)])) s (Same.refl _) (.own r.len (r.newDc hp (.inr ⟨[], [], rfl, upd_same, .nil⟩))) h
end
end Hs
/-! HsR: what is looked at and then free again; tuples whose lists one slot alone holds; displays of dicts. -/
namespace Hs
open PySem PySem.Spec PyProof.Rows L2
section
variable {K : PySem.W.Frag} {Z Z' Y Y' H H' : Hp} {σ σ' : St} {s s' : S}

/-- what stood aside, in a slot of its own -/
theorem Rel.claim (r : Rel K Z Y' H σ s) {v : Option V} {w : SV} {G : List Addr} (hy : Same Y Y') (nd : G.Nodup) (h1 : ∀ a ∈ G, Y' a ≠ none) (h2 : ∀ a ∈ G, Y a = none) (h : SlotAt K Z H v w G) : Rel K Z Y H (σ ++ [v]) (s ++ [w]) := by
  obtain ⟨F, o⟩ := r.own
  have hl := r.len
  have hd : ∀ i, ∀ a ∈ G, a ∉ F i := fun i a ha hg => h1 a ha (o.fr i a hg).2
  refine ⟨r.zh, hy.trans r.yh, fun a ha => ?_, fun a vs e => r.yt a vs (hy a _ e), by simp [hl], fun i => if i = σ.length then G else F i, fun i => ?_, fun i => ?_, fun i j a ha ha' => ?_, fun i a ha => ?_⟩
  · cases e : Y a with
    | none => rfl
    | some q =>
      have := r.zy a ha
      rw [hy a q e] at this
      cases this
  · by_cases hi : i = σ.length
    · rw [if_pos hi, getD_app_ge (by omega), getD_app_ge (by omega), hi, Nat.sub_self, ← hl, Nat.sub_self]
      exact h
    · rw [if_neg hi]
      have q := o.at_ i
      by_cases hlt : i < σ.length
      · rw [getD_app_lt hlt, getD_app_lt (by omega)]
        exact q
      · rw [getD_out (l := s ++ [w]) (by rw [List.length_append]; show s.length + 1 ≤ i; omega)]
        rw [getD_out (l := s) (by omega)] at q
        exact q
  · by_cases hi : i = σ.length
    · rw [if_pos hi]; exact nd
    · rw [if_neg hi]; exact o.nd i
  · by_cases hi : i = σ.length
    · rw [if_pos hi] at ha
      by_cases hj : j = σ.length
      · rw [hi, hj]
      · rw [if_neg hj] at ha'; exact (hd j a ha ha').elim
    · rw [if_neg hi] at ha
      by_cases hj : j = σ.length
      · rw [if_pos hj] at ha'; exact (hd i a ha' ha).elim
      · rw [if_neg hj] at ha'; exact o.dj i j a ha ha'
  · by_cases hi : i = σ.length
    · rw [if_pos hi] at ha
      refine ⟨?_, h2 a ha⟩
      cases e : Z a with
      | none => rfl
      | some q => exact absurd (r.zy a (by rw [e]; exact fun z => nomatch z)) (h1 a ha)
    · rw [if_neg hi] at ha
      refine ⟨(o.fr i a ha).1, ?_⟩
      cases e : Y a with
      | none => rfl
      | some q =>
        have := (o.fr i a ha).2
        rw [hy a q e] at this
        cases this
/-- a new thing, put aside -/
theorem Rel.newY (r : Rel K Z Y H σ s) {p : Addr} (o : HO) (ho : ∀ vs, o ≠ .tup vs) (h : H p = none) : Rel K Z (upd Y p o) (upd H p o) σ s := by
  obtain ⟨F, q⟩ := r.own
  refine ⟨r.zh.trans (same_upd h), fun a x e => ?_, fun a ha => ?_, fun a vs => ?_, r.len, F, fun i => (q.at_ i).mono (Same.refl _) fun a _ ob e => same_upd h a ob e, q.nd, q.dj, fun i a ha => ⟨(q.fr i a ha).1, ?_⟩⟩
  · by_cases hp : a = p
    · subst hp; rw [upd_same] at e ⊢; exact e
    · rw [upd_ne hp] at e ⊢; exact r.yh a x e
  · rw [upd_ne (fun e => by rw [e, r.zh.free h] at ha; exact ha rfl)]
    exact r.zy a ha
  · by_cases hp : a = p
    · subst hp; rw [upd_same]; exact fun e => ho vs (Option.some.inj e)
    · rw [upd_ne hp]; exact r.yt a vs
  · rw [upd_ne (fun e => (q.at_ i).there a ha (by rw [e]; exact h))]
    exact (q.fr i a ha).2
theorem Rel.lessY (r : Rel K Z Y' H σ s) (hy : Same Y Y') : Rel K Z Y H σ s := by
  obtain ⟨F, q⟩ := r.own
  have no : ∀ a, Y' a = none → Y a = none := fun a h => by
    cases e : Y a with
    | none => rfl
    | some o => rw [hy a o e] at h; cases h
  exact ⟨r.zh, hy.trans r.yh, fun a ha => no a (r.zy a ha), fun a vs e => r.yt a vs (hy a _ e), r.len, F, q.at_, q.nd, q.dj, fun i a ha => ⟨(q.fr i a ha).1, no a (q.fr i a ha).2⟩⟩

/-! ### what the slots hold alone are lists and dicts -/
theorem DcAt.notup {p : Addr} {kvs : List (D × D)} (h : DcAt K Z H p kvs) (vs : List V) : H p ≠ some (.tup vs) := by
  rcases h with ⟨ks, e1, r⟩ | ⟨ks, kvs', e0, e1, r⟩ <;> (rw [e1]; exact fun z => nomatch z)
theorem PartAt.notup {v : V} {w : PV} {F : List Addr} (h : PartAt K Z H v w F) (us : List V) : ∀ a ∈ F, H a ≠ some (.tup us) := by
  intro a ha
  cases w with
  | d x => rw [h.1] at ha; cases ha
  | l xs =>
    obtain ⟨p, vs, h1, h2, h3, h4, h5⟩ := h
    rw [h2] at ha
    obtain rfl : a = p := by simpa using ha
    rw [h3]; exact fun z => nomatch z
  | dc kvs =>
    obtain ⟨p, h1, h2, h3⟩ := h
    rw [h2] at ha
    obtain rfl : a = p := by simpa using ha
    exact h3.notup us
theorem TpAt.notup {vs : List V} {ws : List PV} {F : List Addr} (h : TpAt K Z H vs ws F) (us : List V) : ∀ a ∈ F, H a ≠ some (.tup us) := by
  induction h with
  | nil => intro a ha; cases ha
  | cons h r ih =>
    intro a ha
    rcases List.mem_append.mp ha with ha | ha
    · exact h.notup us a ha
    · exact ih a ha
theorem SlotAt.notup {v : Option V} {sv : SV} {F : List Addr} (h : SlotAt K Z H v sv F) (us : List V) : ∀ a ∈ F, H a ≠ some (.tup us) := by
  have LLt : ∀ {qs : List Addr} {xss : List (List D)}, LL K Z H qs xss → ∀ a ∈ qs, H a ≠ some (.tup us) := by
    intro qs xss r
    induction r with
    | nil => intro a ha; cases ha
    | cons h z a r ih =>
      intro b hb
      rcases List.mem_cons.mp hb with rfl | hb
      · rw [h]; exact fun z => nomatch z
      · exact ih b hb
  intro a ha
  cases sv with
  | no => rw [show F = [] from h] at ha; cases ha
  | d x => rw [h.1] at ha; cases ha
  | l xs =>
    obtain ⟨p, vs, h1, h2, h3, h4, h5⟩ := h
    rw [h2] at ha
    obtain rfl : a = p := by simpa using ha
    rw [h3]; exact fun z => nomatch z
  | ll xss =>
    obtain ⟨p, qs, h1, h2, h3, h4, h5⟩ := h
    rw [h2] at ha
    rcases List.mem_cons.mp ha with rfl | ha
    · rw [h3]; exact fun z => nomatch z
    · exact LLt h5 a ha
  | dc kvs =>
    obtain ⟨p, h1, h2, h3⟩ := h
    rw [h2] at ha
    obtain rfl : a = p := by simpa using ha
    exact h3.notup us
  | ob c fs =>
    obtain ⟨p, dx, vs, G, h1, h2, h3, h4, h5⟩ := h
    rw [h2] at ha
    rcases List.mem_cons.mp ha with rfl | ha
    · rw [h3]; exact fun z => nomatch z
    · rcases List.mem_cons.mp ha with rfl | ha
      · rw [h4]; exact fun z => nomatch z
      · exact h5.notup us a ha
  | tp ws =>
    obtain ⟨p, vs, h1, h3, h4, h5⟩ := h
    exact h5.notup us a ha

/-! ### all slots looked at -/
def frz1 (w : SV) : SV := match asD w with
  | some x => .d x
  | none => .no
def frzS (s : S) : S := s.map frz1
theorem frzS_get (s : S) (i : Nat) : (frzS s).getD i .no = frz1 (s.getD i .no) := by
  unfold frzS
  rw [List.getD_eq_getElem?_getD, List.getD_eq_getElem?_getD, List.getElem?_map]
  cases s[i]? <;> rfl
theorem Rel.frzS (r : Rel K Z Y H σ s) : ∃ (F : Nat → List Addr) (Z' : Hp), OwnF K Z Y H σ s F ∧ Same Z Z' ∧ (∀ i, ∀ a ∈ F i, Z' a = H a) ∧ Rel K Z' Y H σ (Hs.frzS s) := by
  classical
  obtain ⟨F, o⟩ := r.own
  let Z' : Hp := fun a => if ∃ i, a ∈ F i then H a else Z a
  have hz : Same Z Z' := fun a q e => by
    show (if _ then _ else _) = _
    rw [if_neg (fun ⟨i, h⟩ => by rw [(o.fr i a h).1] at e; cases e)]
    exact e
  have zh : Same Z' H := fun a q e => by
    have e : (if ∃ i, a ∈ F i then H a else Z a) = some q := e
    split at e
    · exact e
    · exact r.zh a q e
  refine ⟨F, Z', o, hz, fun i a ha => if_pos ⟨i, ha⟩, zh, r.yh, fun a ha => ?_, r.yt, by unfold Hs.frzS; rw [List.length_map]; exact r.len, fun _ => [], fun i => ?_, fun _ => .nil, fun _ _ _ ha => (nomatch ha), fun _ _ ha => (nomatch ha)⟩
  · have e : (if ∃ i, a ∈ F i then H a else Z a) ≠ none := ha
    split at e
    · rename_i hc
      obtain ⟨i, hi⟩ := hc
      exact (o.fr i a hi).2
    · exact r.zy a e
  · rw [frzS_get]
    unfold frz1
    cases e : asD (s.getD i .no) with
    | none => exact rfl
    | some x =>
      have q' : SlotAt K Z' Z' (σ.getD i none) (s.getD i .no) (F i) := (o.at_ i).mono hz fun a ha ob e => (if_pos ⟨i, ha⟩ : (if ∃ i, a ∈ F i then H a else Z a) = H a).trans e
      obtain ⟨u, h1, h2⟩ := q'.asD (Same.refl _) e
      exact ⟨rfl, u, h1, h2⟩
/-- values without lists and dicts -/
def flatD : D → Bool
  | .none | .bool _ | .int _ | .str _ => true
  | .tuple ds => flatL ds
  | _ => false
where flatL : List D → Bool
  | [] => true
  | d :: ds => flatD d && flatL ds
mutual
theorem Rp.flat (h : ∀ a vs, Z a = some (.tup vs) → Z' a = some (.tup vs)) : ∀ (d : PyData) (v : V), flatD d = true → Rp K Z v d → Rp K Z' v d
  | .none, _, _, .non => .non
  | .bool _, _, _, .bl b => .bl b
  | .int _, _, _, .int i => .int i
  | .str _, _, _, .str x => .str x
  | .list ds, _, f, _ => by simp [flatD] at f
  | .tuple ds, _, f, .tup q z a => .tup (h _ _ q) z (RpAll.flat h ds _ (by simpa [flatD] using f) a)
  | .dict _, _, f, _ => by simp [flatD] at f
theorem RpAll.flat (h : ∀ a vs, Z a = some (.tup vs) → Z' a = some (.tup vs)) : ∀ (ds : List PyData) (vs : List V), flatD.flatL ds = true → RpAll K Z vs ds → RpAll K Z' vs ds
  | [], _, _, .nil => .nil
  | d :: ds, _, f, .cons r a => by
    have f' : flatD d = true ∧ flatD.flatL ds = true := by simpa [flatD.flatL] using f
    exact .cons (Rp.flat h d _ f'.1 r) (RpAll.flat h ds _ f'.2 a)
end
/-- what comes and holds nothing of what was looked at -/
def flatR (r : R) (k : Prop) : Prop := match r with
  | .d x => flatD x = true ∧ k
  | .own (.l xs) => flatD.flatL xs = true ∧ k
  | _ => False
/-- an expression that only looks at what the slots hold -/
def fBor (e : FE) : FE := fun _ s Q => e (fun _ _ => False) (frzS s) fun r _ => flatR r (Q r s)
def fBorT (t : FT) : FT := fun _ s Q => t (fun _ _ => False) (frzS s) fun b _ => Q b s
/-- behind it -/
theorem Rel.free (r : Rel K Z Y H σ s) {F : Nat → List Addr} {Z1 Z2 : Hp} (o : OwnF K Z Y H σ s F) (hz1 : Same Z Z1) (h1 : ∀ i, ∀ a ∈ F i, Z1 a = H a) (hz2 : Same Z1 Z2) (zh : Same Z2 H') (yh : Same Y H') (zy : ∀ a, Z2 a ≠ none → Y a = none) :
    ∃ Z3, Same Z Z3 ∧ Same Z3 Z2 ∧ (∀ a vs, Z2 a = some (.tup vs) → Z3 a = some (.tup vs)) ∧ OwnF K Z3 Y H' σ s F ∧ (∀ i, ∀ a ∈ F i, Z2 a ≠ none) ∧ (∀ i, ∀ a ∈ F i, Z3 a = none) ∧ Rel K Z3 Y H' σ s := by
  classical
  let Z3 : Hp := fun a => if ∃ i, a ∈ F i then none else Z2 a
  have s3 : Same Z3 Z2 := fun a q e => by
    have e : (if ∃ i, a ∈ F i then none else Z2 a) = some q := e
    split at e
    · cases e
    · exact e
  have in2 : ∀ i, ∀ a ∈ F i, ∀ ob, H a = some ob → Z2 a = some ob := fun i a ha ob e => hz2 a ob ((h1 i a ha).trans e)
  have s03 : Same Z Z3 := fun a q e => by
    show (if _ then _ else _) = _
    rw [if_neg (fun ⟨i, h⟩ => by rw [(o.fr i a h).1] at e; cases e)]
    exact hz2 a q (hz1 a q e)
  have n3 : ∀ i, ∀ a ∈ F i, Z3 a = none := fun i a ha => if_pos ⟨i, ha⟩
  have oo : OwnF K Z3 Y H' σ s F := ⟨fun i => (o.at_ i).mono s03 fun a ha ob e => zh a ob (in2 i a ha ob e), o.nd, o.dj, fun i a ha => ⟨n3 i a ha, (o.fr i a ha).2⟩⟩
  refine ⟨Z3, s03, s3, fun a vs e => ?_, oo, fun i a ha => ?_, n3, s3.trans zh, yh, fun a ha => ?_, r.yt, r.len, F, oo⟩
  · show (if _ then _ else _) = _
    rw [if_neg]
    · exact e
    · rintro ⟨i, hi⟩
      cases eh : H a with
      | none => exact (o.at_ i).there a hi eh
      | some ob =>
        have := in2 i a hi ob eh
        rw [e] at this
        cases this
        exact (o.at_ i).notup vs a hi eh
  · cases eh : H a with
    | none => exact ((o.at_ i).there a ha eh).elim
    | some ob => rw [in2 i a ha ob eh]; exact fun z => nomatch z
  · cases e : Z3 a with
    | none => exact (ha e).elim
    | some q => exact zy a (by rw [s3 a q e]; exact fun z => nomatch z)
end
section
variable {X : Cx} {L : Lv} {e a b c : Expr} {es : List Expr} {fa fb fc fj fx : FE} {ft : FT} {fr : FA} {pos p : Pos}
theorem pf_bor (he : PF X L e fa) : PF X L e (fBor fa) := PE_imp he fun σ H Q ⟨Z, Y, s, Xf, Qf, r, k, xo, h, q⟩ => by
  obtain ⟨F, Z1, o, hz1, h1, r1⟩ := r.frzS
  refine ⟨Z1, Y, frzS s, _, _, r1, k, fun _ _ _ _ _ _ _ _ _ h _ => h.elim, h, fun v H' Z2 rr s' hz2 rx hq => ?_⟩
  obtain ⟨Z3, s03, s32, ht, oo, in2, n3, rl⟩ := r.free o hz1 h1 hz2 rx.rel0.zh rx.rel0.yh rx.rel0.zy
  cases rr with
  | d x => exact q v H' Z3 _ s s03 (.d rl (Rp.flat ht x v hq.1 rx.vd)) hq.2
  | top i => exact hq.elim
  | own w =>
    cases w with
    | l xs =>
      refine q v H' Z3 _ s s03 (.own rl.len ?_) hq.2
      obtain ⟨G, oG⟩ := rx.rel.own
      have sl := oG.at_ σ.length
      rw [getD_app_ge (Nat.le_refl _), Nat.sub_self, getD_app_ge (by have := rx.l1; omega), ← rx.l1, Nat.sub_self] at sl
      obtain ⟨p, vs, e1, e2, e3, e4, e5⟩ := sl
      cases e1
      have fp := oG.fr σ.length p (by rw [e2]; exact List.mem_cons_self)
      have hn : ∀ i, p ∉ F i := fun i hi => in2 i p hi fp.1
      have p3 : Z3 p = none := by
        cases ez : Z3 p with
        | none => rfl
        | some ob => rw [s32 p ob ez] at fp; cases fp.1
      refine ⟨rl.zh, rl.yh, rl.zy, rl.yt, by rw [List.length_append, List.length_append, rl.len]; rfl, fun i => if i = σ.length then [p] else F i, fun i => ?_, fun i => ?_, fun i j a ha ha' => ?_, fun i a ha => ?_⟩
      · have hl := rl.len
        by_cases hi : i = σ.length
        · rw [if_pos hi, getD_app_ge (by omega), getD_app_ge (by omega), hi, Nat.sub_self, ← hl, Nat.sub_self]
          exact ⟨p, vs, rfl, rfl, e3, e4, RpAll.flat ht xs vs hq.1 e5⟩
        · rw [if_neg hi]
          have q := oo.at_ i
          by_cases hlt : i < σ.length
          · rw [getD_app_lt hlt, getD_app_lt (by omega)]
            exact q
          · rw [getD_out (l := s ++ [_]) (by rw [List.length_append]; show s.length + 1 ≤ i; omega)]
            rw [getD_out (l := s) (by omega)] at q
            exact q
      · by_cases hi : i = σ.length
        · rw [if_pos hi]; simp
        · rw [if_neg hi]; exact oo.nd i
      · by_cases hi : i = σ.length
        · rw [if_pos hi] at ha
          obtain rfl : a = p := by simpa using ha
          by_cases hj : j = σ.length
          · rw [hi, hj]
          · rw [if_neg hj] at ha'; exact (hn j ha').elim
        · rw [if_neg hi] at ha
          by_cases hj : j = σ.length
          · rw [if_pos hj] at ha'
            obtain rfl : a = p := by simpa using ha'
            exact (hn i ha).elim
          · rw [if_neg hj] at ha'; exact oo.dj i j a ha ha'
      · by_cases hi : i = σ.length
        · rw [if_pos hi] at ha
          obtain rfl : a = p := by simpa using ha
          exact ⟨p3, fp.2⟩
        · rw [if_neg hi] at ha; exact oo.fr i a ha
    | _ => exact hq.elim
theorem pft_bor (he : PFT X L e ft) : PFT X L e (fBorT ft) := PT_imp he fun σ H Q ⟨Z, Y, s, Xf, Qf, r, k, xo, h, q⟩ => by
  obtain ⟨F, Z1, o, hz1, h1, r1⟩ := r.frzS
  refine ⟨Z1, Y, frzS s, _, _, r1, k, fun _ _ _ _ _ _ _ _ _ h _ => h.elim, h, fun b H' Z2 s' hz2 rx hq => ?_⟩
  obtain ⟨Z3, s03, s32, ht, oo, in2, n3, rl⟩ := r.free o hz1 h1 hz2 rx.zh rx.yh rx.zy
  exact q b H' Z3 s s03 rl hq

/-! ### {k: v} -/
def fDisp1 (k v : FE) : FE := fun X s Q => k X s fun rk s1 => v X s1 fun rv s2 => frzAll [rk, rv] s2 fun ds s3 => match ds with
  | [kd, d] => match keyN kd with
    | some k' => Q (.own (.dc [(keyD k', d)])) s3
    | none => False
  | _ => False
theorem pf_disp1 {k v : Expr} (hk : PF X L k fa) (hv : PF X L v fb) : PF X L (.Dict [some k] [v] pos) (fDisp1 fa fb) := PE_imp (pe_disp (pps_cons hk hv pps_nil) rfl rfl (by simp) (by show 1 ≤ 15; decide)) fun σ H Q ⟨Z, Y, s, Xf, Qf, r, k, xo, h, q⟩ => by
  intro p hp
  have yp : Y p = none := r.yh.free hp
  have hyy : Same Y (upd Y p (.dK [])) := same_upd yp
  refine ⟨Z, upd Y p (.dK []), s, Xf, _, r.newY _ (fun _ z => nomatch z) hp, k, xo.mono (Same.refl _) fun _ _ _ _ _ q => q.lessY hyy, h, fun x H1 Z1 rk s1 hz rx h1 => ?_⟩
  obtain ⟨Y', hy, rl, bk, fw⟩ := rx.frame
  refine ⟨Z1, Y', s1, Xf, _, rl, k, ((xo.mono (Same.refl _) fun _ _ _ _ _ q => q.lessY hyy).z hz).mono (Same.refl _) bk, h1, fun y H2 Z2 rv s2 hz2 rx2 h2 => ?_⟩
  have rx3 := fw Z2 H2 s2 [y] [rv] hz2 rx2
  obtain ⟨Z3, ds, s3, hz3, rx4, h3⟩ := frzAll_ok (us := []) (ds := []) rx3 rfl h2
  have ra := rx4.rps
  have e2 : H2 p = some (.dK []) := rx4.rel0.yh p _ upd_same
  refine ⟨e2, ?_⟩
  split at h3
  · cases ra with
    | cons rk ra =>
      cases ra with
      | cons rd _ =>
        split at h3
        · rename_i k' ek
          rw [keyN_eq ek] at rk
          have ek : x = kV k' := (RpV.key (H := H2) (.inl rk))
          refine ⟨[(k', y)], by rw [ek]; rfl, by show 1 ≤ 15; decide, ?_⟩
          have c := rx4.rel0.claim (v := some (.ref p)) (w := .dc []) (G := [p]) hyy (by simp) (fun a ha => ?_) (fun a ha => ?_) ⟨p, rfl, rfl, .inl ⟨[], e2, .nil⟩⟩
          · have hl := rx4.l1
            have w := c.writeDc (i := σ.length) (p := p) (ob := .dK (mergeK [] [(k', y)])) (kvs := []) (kvs' := [(keyD k', _)]) (by rw [getD_app_ge (by omega), hl, Nat.sub_self]; rfl) (by rw [getD_app_ge (Nat.le_refl _), Nat.sub_self]; rfl) (.inl ⟨_, upd_same, .cons rd .nil⟩)
            rw [List.set_append_right _ _ (by omega), hl, Nat.sub_self] at w
            exact q _ _ Z3 _ s3 ((hz.trans hz2).trans hz3) (.own hl w) h3
          · obtain rfl : a = p := by simpa using ha
            rw [upd_same]; exact fun z => nomatch z
          · obtain rfl : a = p := by simpa using ha
            exact yp
        · exact h3.elim
  · exact h3.elim
end
/-! ### tuples whose lists one slot alone holds -/
def PV.sv : PV → SV
  | .d x => .d x
  | .l xs => .l xs
  | .dc kvs => .dc kvs
def toPs : List SV → (List PV → Prop) → Prop
  | [], k => k []
  | .d x :: r, k => toPs r fun ws => k (.d x :: ws)
  | .l xs :: r, k => toPs r fun ws => k (.l xs :: ws)
  | .dc kvs :: r, k => toPs r fun ws => k (.dc kvs :: ws)
  | _ :: _, _ => False
theorem toPs_ok : ∀ {svs : List SV} {k : List PV → Prop}, toPs svs k → ∃ ws : List PV, svs = ws.map PV.sv ∧ k ws
  | [], k, h => ⟨[], rfl, h⟩
  | .d x :: r, k, h => by
    obtain ⟨ws, e, h⟩ := toPs_ok (svs := r) h
    exact ⟨.d x :: ws, by rw [e]; rfl, h⟩
  | .l x :: r, k, h => by
    obtain ⟨ws, e, h⟩ := toPs_ok (svs := r) h
    exact ⟨.l x :: ws, by rw [e]; rfl, h⟩
  | .dc x :: r, k, h => by
    obtain ⟨ws, e, h⟩ := toPs_ok (svs := r) h
    exact ⟨.dc x :: ws, by rw [e]; rfl, h⟩
  | .no :: _, _, h => h.elim
  | .ll _ :: _, _, h => h.elim
  | .ob _ _ :: _, _, h => h.elim
  | .tp _ :: _, _, h => h.elim
section
variable {K : PySem.W.Frag} {Z Z' Y Y' H H' : Hp} {σ σ' : St} {s s' : S}
theorem part_at {v : V} {w : PV} {F : List Addr} (h : SlotAt K Z H (some v) w.sv F) : PartAt K Z H v w F := by
  cases w with
  | d x =>
    obtain ⟨h1, u, h2, h3⟩ := h
    cases h2
    exact ⟨h1, h3⟩
  | l xs =>
    obtain ⟨p, vs, h1, h2, h3, h4, h5⟩ := h
    cases h1
    exact ⟨p, vs, rfl, h2, h3, h4, h5⟩
  | dc kvs =>
    obtain ⟨p, h1, h2, h3⟩ := h
    cases h1
    exact ⟨p, rfl, h2, h3⟩
theorem pack0 : ∀ {vs : List V} {ws : List PV} {F : Nat → List Addr}, vs.length = ws.length → (∀ k, SlotAt K Z H ((vs.map some).getD k none) ((ws.map PV.sv).getD k .no) (F k)) → (∀ k, (F k).Nodup) → (∀ i j a, a ∈ F i → a ∈ F j → i = j) → ∃ G, TpAt K Z H vs ws G ∧ G.Nodup ∧ ∀ a ∈ G, ∃ k, k < vs.length ∧ a ∈ F k
  | [], [], F, _, _, _, _ => ⟨[], .nil, .nil, fun a ha => nomatch ha⟩
  | [], _ :: _, _, e, _, _, _ => by cases e
  | _ :: _, [], _, e, _, _, _ => by cases e
  | v :: vs, w :: ws, F, e, h, nd, dj => by
    obtain ⟨G, t, gn, gm⟩ := pack0 (vs := vs) (ws := ws) (F := fun k => F (k + 1)) (by simpa using e) (fun k => h (k + 1)) (fun k => nd (k + 1)) (fun i j a h1 h2 => by have := dj (i + 1) (j + 1) a h1 h2; omega)
    refine ⟨F 0 ++ G, .cons (part_at (h 0)) t, List.nodup_append.mpr ⟨nd 0, gn, fun a ha b hb e => ?_⟩, fun a ha => ?_⟩
    · subst e
      obtain ⟨k, _, hk⟩ := gm a hb
      have := dj 0 (k + 1) a ha hk
      omega
    · rcases List.mem_append.mp ha with ha | ha
      · exact ⟨0, by simp, ha⟩
      · obtain ⟨k, h1, h2⟩ := gm a ha
        exact ⟨k + 1, by simp [h1], h2⟩
theorem Rel.pack {vs : List V} {ws : List PV} {p : Addr} (r : Rel K Z Y H (σ ++ vs.map some) (s ++ ws.map PV.sv)) (hl : σ.length = s.length) (hn : vs.length = ws.length) (hp : Z p = some (.tup vs)) (hz : vs.length ≤ sizeLine) : Rel K Z Y H (σ ++ [some (.ref p)]) (s ++ [.tp ws]) := by
  obtain ⟨F, o⟩ := r.own
  obtain ⟨G, t, gn, gm⟩ := pack0 (K := K) (Z := Z) (H := H) (F := fun k => F (σ.length + k)) hn (fun k => by
    have q := o.at_ (σ.length + k)
    rw [getD_app_ge (by omega), getD_app_ge (by omega), ← hl, Nat.add_sub_cancel_left] at q
    exact q) (fun k => o.nd _) (fun i j a h1 h2 => by have := o.dj _ _ a h1 h2; omega)
  have hd : ∀ i, i < σ.length → ∀ a ∈ G, a ∉ F i := fun i hi a ha hf => by
    obtain ⟨k, _, hk⟩ := gm a ha
    have := o.dj _ _ a hk hf
    omega
  refine ⟨r.zh, r.yh, r.zy, r.yt, by simp [hl], fun i => if i < σ.length then F i else if i = σ.length then G else [], fun i => ?_, fun i => ?_, fun i j a ha ha' => ?_, fun i a ha => ?_⟩
  · by_cases h1 : i < σ.length
    · rw [if_pos h1, getD_app_lt h1, getD_app_lt (by omega)]
      have q := o.at_ i
      rw [getD_app_lt h1, getD_app_lt (by omega)] at q
      exact q
    · rw [if_neg h1]
      by_cases h2 : i = σ.length
      · rw [if_pos h2, getD_app_ge (by omega), getD_app_ge (by omega), h2, Nat.sub_self, ← hl, Nat.sub_self]
        exact ⟨p, vs, rfl, hp, hz, t⟩
      · have ho : (s ++ [SV.tp ws]).length ≤ i := by rw [List.length_append]; show s.length + 1 ≤ i; omega
        rw [if_neg h2, getD_out ho]
        exact rfl
  · by_cases h1 : i < σ.length
    · rw [if_pos h1]; exact o.nd i
    · rw [if_neg h1]
      by_cases h2 : i = σ.length
      · rw [if_pos h2]; exact gn
      · rw [if_neg h2]; exact .nil
  · by_cases h1 : i < σ.length
    · rw [if_pos h1] at ha
      by_cases h3 : j < σ.length
      · rw [if_pos h3] at ha'; exact o.dj i j a ha ha'
      · rw [if_neg h3] at ha'
        by_cases h4 : j = σ.length
        · rw [if_pos h4] at ha'; exact (hd i h1 a ha' ha).elim
        · rw [if_neg h4] at ha'; cases ha'
    · rw [if_neg h1] at ha
      by_cases h2 : i = σ.length
      · rw [if_pos h2] at ha
        by_cases h3 : j < σ.length
        · rw [if_pos h3] at ha'; exact (hd j h3 a ha ha').elim
        · rw [if_neg h3] at ha'
          by_cases h4 : j = σ.length
          · rw [h2, h4]
          · rw [if_neg h4] at ha'; cases ha'
      · rw [if_neg h2] at ha; cases ha
  · by_cases h1 : i < σ.length
    · rw [if_pos h1] at ha; exact o.fr i a ha
    · rw [if_neg h1] at ha
      by_cases h2 : i = σ.length
      · rw [if_pos h2] at ha
        obtain ⟨k, _, hk⟩ := gm a ha
        exact o.fr _ a hk
      · rw [if_neg h2] at ha; cases ha
end
def fTupO (a : FA) : FE := fun X s Q => a X s fun rs s1 => bindA (List.replicate rs.length true) rs s1 fun svs s2 => toPs svs fun ws => Q (.own (.tp ws)) s2
section
variable {X : Cx} {L : Lv} {e a b c : Expr} {es : List Expr} {fa fb fc fj fx : FE} {ft : FT} {fr : FA} {pos p : Pos}
theorem pf_tupO {x1} (ha : PFA X L es fr) (hn : es.length ≤ sizeLine := by show _ ≤ 16777216; decide) : PF X L (.Tuple es x1 pos) (fTupO fr) := PE_imp (pe_tup ha) fun σ H Q ⟨Z, Y, s, Xf, Qf, r, k, xo, h, q⟩ => by
  refine ⟨Z, Y, s, Xf, _, r, k, xo, h, fun vs H1 Z1 rs s1 hz rx hl h1 => ?_⟩
  have hz1 : vs.length ≤ sizeLine := by rw [rx.l2, hl]; exact hn
  refine ⟨hz1, fun p hp => ?_⟩
  obtain ⟨Z2, svs, s2, hz2, r2, l1, l2, _, h2⟩ := bindA_ok (us := []) (ds := []) (vs := vs) (by simpa using rx.rel) rx.l1 rfl rx.l2 rx.top h1
  obtain ⟨ws, e, h3⟩ := toPs_ok h2
  subst e
  have r3 := r2.newZ (.tup vs) hp
  have hz3 : Same Z2 (upd Z2 p (.tup vs)) := same_upd (r2.fresh hp)
  have r4 := Rel.pack (σ := σ) (s := s2) (vs := vs) (ws := ws) (p := p) (by simpa using r3) (by rw [l1]; exact rx.l1) (by rw [← l2, List.length_map]) upd_same hz1
  exact q (.ref p) _ _ _ s2 ((hz.trans hz2).trans hz3) (.own (by rw [l1]; exact rx.l1) r4) h3

/-! ### a list in such a tuple, changed by a method -/
section
variable {K : PySem.W.Frag} {Z Z' Y Y' H H' : Hp} {σ σ' : St} {s s' : S}
theorem PartAt.other {v : V} {w : PV} {F : List Addr} {q : Addr} {o : HO} (h : PartAt K Z H v w F) (hq : q ∉ F) : PartAt K Z (upd H q o) v w F := h.mono (Same.refl _) fun a ha ob e => by
  rw [upd_ne (fun e2 => hq (by rw [← e2]; exact ha))]; exact e
theorem TpAt.other {vs : List V} {ws : List PV} {F : List Addr} {q : Addr} {o : HO} (h : TpAt K Z H vs ws F) (hq : q ∉ F) : TpAt K Z (upd H q o) vs ws F := h.mono (Same.refl _) fun a ha ob e => by
  rw [upd_ne (fun e2 => hq (by rw [← e2]; exact ha))]; exact e
theorem TpAt.part : ∀ {vs : List V} {ws : List PV} {F : List Addr} {k : Nat} {xs : List D}, TpAt K Z H vs ws F → F.Nodup → ws[k]? = some (.l xs) → ∃ q us, vs[k]? = some (.ref q) ∧ q ∈ F ∧ H q = some (.lst us) ∧ us.length ≤ sizeLine ∧ RpAll K Z us xs ∧
    ∀ us' xs', us'.length ≤ sizeLine → RpAll K Z us' xs' → TpAt K Z (upd H q (.lst us')) vs (ws.set k (.l xs')) F
  | _, _, _, _, _, .nil, _, e => by simp at e
  | _, _, _, 0, xs, .cons (F := F) (G := G) h t, nd, e => by
    simp only [List.getElem?_cons_zero, Option.some.injEq] at e
    subst e
    obtain ⟨p, vs, h1, h2, h3, h4, h5⟩ := h
    subst h1 h2
    have hpG : p ∉ G := fun hg => (List.nodup_append.mp nd).2.2 p (by simp) p hg rfl
    exact ⟨p, vs, rfl, by simp, h3, h4, h5, fun us' xs' hl ra => .cons (F := [p]) ⟨p, us', rfl, rfl, upd_same, hl, ra⟩ (t.other hpG)⟩
  | _, _, _, k + 1, xs, .cons (F := F) (G := G) h t, nd, e => by
    obtain ⟨q, us, h1, h2, h3, h4, h5, h6⟩ := t.part (k := k) (List.nodup_append.mp nd).2.1 (by simpa using e)
    have hqF : q ∉ F := fun hf => (List.nodup_append.mp nd).2.2 q hf q h2 rfl
    exact ⟨q, us, by simpa using h1, List.mem_append.mpr (.inr h2), h3, h4, h5, fun us' xs' hl ra => .cons (h.other hqF) (h6 us' xs' hl ra)⟩
theorem Rel.part (r : Rel K Z Y H σ s) {i k : Nat} {ws : List PV} {xs : List D} (hs : s.getD i .no = .tp ws) (hk : ws[k]? = some (.l xs)) : ∃ p vs q us, σ.getD i none = some (.ref p) ∧ Z p = some (.tup vs) ∧ vs[k]? = some (.ref q) ∧ H q = some (.lst us) ∧ us.length ≤ sizeLine ∧ RpAll K Z us xs ∧
    ∀ us' xs', us'.length ≤ sizeLine → RpAll K Z us' xs' → Rel K Z Y (upd H q (.lst us')) σ (s.set i (.tp (ws.set k (.l xs')))) := by
  obtain ⟨F, o⟩ := r.own
  have sl := o.at_ i
  rw [hs] at sl
  obtain ⟨p, vs, h1, h2, h3, h4⟩ := sl
  obtain ⟨q, us, k1, k2, k3, k4, k5, k6⟩ := h4.part (o.nd i) hk
  have hi : i < s.length := by
    by_cases h : i < s.length
    · exact h
    · rw [getD_out (by omega)] at hs; cases hs
  have pf := o.fr i q k2
  refine ⟨p, vs, q, us, h1, h2, k1, k3, k4, k5, fun us' xs' hl ra => ⟨fun b x e => ?_, fun b x e => ?_, r.zy, r.yt, by rw [List.length_set]; exact r.len, F, fun j => ?_, o.nd, o.dj, o.fr⟩⟩
  · rw [upd_ne (fun z => by rw [z, pf.1] at e; cases e)]; exact r.zh b x e
  · rw [upd_ne (fun z => by rw [z, pf.2] at e; cases e)]; exact r.yh b x e
  · by_cases hj : i = j
    · subst hj
      rw [getD_set_self hi]
      exact ⟨p, vs, h1, h2, h3, k6 us' xs' hl ra⟩
    · rw [getD_set_ne hj]
      refine (o.at_ j).mono (Same.refl _) fun b hb ob e => ?_
      rw [upd_ne]
      · exact e
      · rintro rfl
        exact hj (o.dj i j b k2 hb)
end
def onP (i k : Nat) (s : S) (kk : List PV → List D → Prop) : Prop := match s.getD i .no with
  | .tp ws => match ws[k]? with
    | some (.l xs) => kk ws xs
    | _ => False
  | _ => False
theorem onP_ok {i k : Nat} {s : S} {kk : List PV → List D → Prop} (h : onP i k s kk) : ∃ ws xs, s.getD i .no = .tp ws ∧ ws[k]? = some (.l xs) ∧ kk ws xs := by
  unfold onP at h
  generalize s.getD i .no = w at h
  cases w with
  | tp ws =>
    dsimp only at h
    generalize e : ws[k]? = o at h
    match o, h with
    | some (.l xs), h => exact ⟨ws, xs, rfl, e, h⟩
  | _ => exact h.elim
/-- t[k].m(..) -/
def fLmP (i k : Nat) (g : LM) (a : FA) : FE := fun X s Q => onP i k s fun _ _ => a X s fun rs s1 => frzAll rs s1 fun ds s2 => onP i k s2 fun ws xs => g xs ds fun d xs' => Q (.d d) (s2.set i (.tp (ws.set k (.l xs'))))
/-- what stands at the place k of the tuple of a slot -/
def tPart (i k : Nat) (K : PySem.W.Frag) : TE := fun σ H Q => ∃ p vs w, σ.getD i none = some (.ref p) ∧ H p = some (.tup vs) ∧ vs[k]? = some w ∧ Q w H
theorem pe_part {i k : Nat} {y : Str} {px p1 p2 : Pos} {j : Nat} (ho : PE X (.Name y px) (tVar i)) : PE X (.Subscript (.Name y px) (.Constant (.int (k : Int)) j p1) p2) (tPart i k X.K) :=
  PE_imp (pe_ix (ix_tup (X := X)) ho pe_int fun _ _ => rfl) fun σ H Q ⟨p, vs, w, h1, h2, h3, q⟩ => ⟨.ref p, getD_some h1, p, vs, (k : Int), w, rfl, rfl, tupSq h2, L2.atI_nat h3, q⟩
theorem fLmP_ok {i k n : Nat} {g : LM} {σ : St} {H : Hp} {Q : VK} (h : liftE X L (fLmP i k g fr) σ H Q) : tBM X.K "list" (rLm X.K g) (tPart i k X.K) (liftA X L n fr) σ H Q := by
  obtain ⟨Z, Y, s, Xf, Qf, r, kp, xo, h, q⟩ := h
  obtain ⟨ws0, xs0, e0, e1, h⟩ := onP_ok h
  obtain ⟨p, vs, q0, us0, hv, hp, hk, hq0, _, _, _⟩ := r.part e0 e1
  refine ⟨p, vs, .ref q0, hv, r.zh _ _ hp, hk, .inl ⟨rfl, us0, .inl (.inl hq0)⟩, Z, Y, s, Xf, _, r, kp, xo, h, fun us H1 Z1 rs s1 hz rx hn h1 => ?_⟩
  obtain ⟨Z2, ds, s2, hz2, rx2, h2⟩ := frzAll_ok (us := []) (ds := []) rx rfl h1
  obtain ⟨ws, xs, e2, e3, h3⟩ := onP_ok h2
  obtain ⟨p', vs', q', us', hv', hp', hk', hq', hl', ra', wr⟩ := rx2.rel0.part e2 e3
  rw [hv] at hv'
  cases hv'
  have ep : Z2 p = some (.tup vs) := hz2 _ _ (hz _ _ hp)
  rw [ep] at hp'
  cases hp'
  rw [hk] at hk'
  cases hk'
  refine ⟨Z2, q0, us', xs, ds, _, rfl, hq', hl', ra', rx2.rel0.zh, rx2.rps, h3, fun u d vs2 xs2 hq ru hl2 ra2 => ?_⟩
  exact q u _ Z2 _ _ (hz.trans hz2) (.d (wr vs2 xs2 hl2 ra2) ru) hq
variable {nm : Str} {apos cpos : Pos} {y : Str} {px p1 p2 : Pos} {j : Nat} {id : String}
theorem pf_lmP (i k : Nat) {g : LM} (slot : Slot "list" nm id) (hty : typeOf (.builtin id) = pure (.type "method_descriptor")) (hm : MtR X id (rLm X.K g)) (ha : PFA X L (e :: es) fr)
    (ho : PE X (.Name y px) (tVar i)) (hbase : attributeBase (.Subscript (.Name y px) (.Constant (.int (k : Int)) j p1) p2) nm X.env (eval (.Subscript (.Name y px) (.Constant (.int (k : Int)) j p1) p2) X.env) = eval (.Subscript (.Name y px) (.Constant (.int (k : Int)) j p1) p2) X.env := by rfl)
    (hfew : ((backTo cpos (starEach (e :: es) X.env)).all (fun x => !x.1) && (backToKw cpos (keywordEach [] X.env)).all (fun x => x.1.isSome)
      && decide ((e :: es).length + ([] : List Keyword).length + (if ([] : List Keyword).isEmpty then 0 else 1) < 30)) = true := by rfl)
    (hline : (apos.endLine == cpos.line) = true := by rfl) (hs : starEach (e :: es) X.env = (false, eval e X.env) :: starEach es X.env := by rfl) (hplain : (backTo cpos (starEach es X.env)).any (·.1) = false := by rfl) :
    PF X L (.Call (.Attribute (.Subscript (.Name y px) (.Constant (.int (k : Int)) j p1) p2) nm apos) (e :: es) [] cpos) (fLmP i k g fr) := PE_imp (pe_bm PySem.F.plainAttrs_list slot hty hm (pe_part ho) ha hbase hfew hline hs hplain) fun _ _ _ => fLmP_ok
theorem pf_lmP0 (i k : Nat) {g : LM} (slot : Slot "list" nm id) (hty : typeOf (.builtin id) = pure (.type "method_descriptor")) (hm : MtR X id (rLm X.K g))
    (ho : PE X (.Name y px) (tVar i)) (hbase : attributeBase (.Subscript (.Name y px) (.Constant (.int (k : Int)) j p1) p2) nm X.env (eval (.Subscript (.Name y px) (.Constant (.int (k : Int)) j p1) p2) X.env) = eval (.Subscript (.Name y px) (.Constant (.int (k : Int)) j p1) p2) X.env := by rfl) (hline : (apos.endLine == cpos.line) = true := by rfl) :
    PF X L (.Call (.Attribute (.Subscript (.Name y px) (.Constant (.int (k : Int)) j p1) p2) nm apos) [] [] cpos) (fLmP i k g fNil) := PE_imp (pe_bm0 PySem.F.plainAttrs_list slot hty hm (pe_part ho) hbase hline) fun σ H Q h => by
  obtain ⟨p, vs, w, h1, h2, h3, ty, Z, Y, s, Xf, Qf, r, k, xo, h, q⟩ := fLmP_ok (n := 0) h
  exact ⟨p, vs, w, h1, h2, h3, ty, q [] H Z [] s (Same.refl _) (.nil r) rfl h⟩
end
/-! ### a statement that only looks at what the slots hold; W: the slots that it stores -/
def flatS (r : R) (k : Prop) : Prop := match r with
  | .d x => flatD x = true ∧ k
  | _ => False
def fBorS (n : Nat) (W : List Nat) (b : FS) : FS := fun E s => s.length ≤ n ∧ b { nx := fun _ => E.nx (wipeS s W), rt := fun r _ => flatS r (E.rt r (wipeS s W)), bk := fun _ => E.bk (wipeS s W), ct := fun _ => E.ct (wipeS s W), xx := fun _ _ => False } (frzS s)
theorem Rel.wipeTo {K : PySem.W.Frag} {Z Y H : Hp} {σ σ' : St} {s : S} {W : List Nat} (r : Rel K Z Y H σ s) (hl : σ'.length = σ.length) (h : ∀ k, k ∉ W → σ'.getD k none = σ.getD k none) : Rel K Z Y H σ' (Hs.wipeS s W) :=
  r.re (fun k => if k ∈ W then none else some k) (by rw [wipeS_len, hl]; exact r.len) (fun k => by
    by_cases hk : k ∈ W
    · simp only [if_pos hk]
      exact .inl (by rw [wipeS_get, if_pos hk])
    · simp only [if_neg hk]
      exact ⟨by rw [wipeS_get, if_neg hk], h k hk⟩) (fun k k' j h h' => by
    by_cases a : k ∈ W
    · rw [if_pos a] at h; cases h
    · by_cases b : k' ∈ W
      · rw [if_pos b] at h'; cases h'
      · rw [if_neg a] at h; rw [if_neg b] at h'; cases h; cases h'; rfl)
theorem pfs_bor {X : Cx} {L : Lv} {st : Stmt} {b : FS} {n : Nat} {W : List Nat} (ioL : List Nat) (hio : ∀ k, k < n → k ∉ W → k ∈ ioL) (hw : ∀ k ∈ L.io, k ∉ W) (h : ∀ σ0, PFS X { L with io := ioL, σ0 := σ0 } st b) : PFS X L st (fBorS n W b) :=
  ⟨fun pins s0 σ H D I q => (h σ).run pins s0 σ H D I (by
    obtain ⟨Z, Y, s, Ef, r, k, ⟨hn, hb⟩, eo⟩ := q
    obtain ⟨F, Z1, o, hz1, h1, r1⟩ := r.frzS
    have same : ∀ σ' : St, σ'.length = σ.length → (∀ j ∈ ioL, σ'.getD j none = σ.getD j none) → ∀ j, j ∉ W → σ'.getD j none = σ.getD j none := fun σ' hl hj j hjW => by
      by_cases c : j < n
      · exact hj j (hio j c hjW)
      · have := r.len
        rw [getD_out (by omega), getD_out (by omega)]
    have kp : ∀ σ' : St, σ'.length = σ.length → (∀ j ∈ ioL, σ'.getD j none = σ.getD j none) → L.keeps σ' := fun σ' hl hj => ⟨hl.trans k.1, fun j hjL => (same σ' hl hj j (hw j hjL)).trans (k.2 j hjL)⟩
    have back : ∀ σ' H' Z' s', Same Z1 Z' → σ'.length = σ.length → (∀ j ∈ ioL, σ'.getD j none = σ.getD j none) → Rel X.K Z' Y H' σ' s' → ∃ Z3, Same Z Z3 ∧ (∀ a vs, Z' a = some (.tup vs) → Z3 a = some (.tup vs)) ∧ Rel X.K Z3 Y H' σ' (Hs.wipeS s W) := fun σ' H' Z' s' hz hl hj rl => by
      obtain ⟨Z3, s03, s32, ht, oo, in2, n3, rl3⟩ := r.free o hz1 h1 hz rl.zh rl.yh rl.zy
      exact ⟨Z3, s03, ht, rl3.wipeTo hl (same σ' hl hj)⟩
    refine ⟨Z1, Y, Hs.frzS s, _, r1, ⟨rfl, fun _ _ => rfl⟩, hb, fun σ' H' Z' s' hz kk rl hq => ?_, fun v σ' H' Z' rr s' hz kk rx hq => ?_, fun σ' H' Z' s' hz kk rl hq => ?_, fun σ' H' Z' s' hz kk rl hq => ?_, fun _ _ _ _ _ _ _ _ _ h _ => h.elim⟩
    · obtain ⟨Z3, z3, _, r3⟩ := back σ' H' Z' s' hz kk.1 kk.2 rl
      exact eo.nx σ' H' Z3 _ z3 (kp σ' kk.1 kk.2) r3 hq
    · cases rr with
      | d x =>
        obtain ⟨Z3, z3, ht, r3⟩ := back σ' H' Z' s' hz kk.1 kk.2 rx.rel0
        exact eo.rt v σ' H' Z3 _ _ z3 (kp σ' kk.1 kk.2) (.d r3 (Rp.flat ht x v hq.1 rx.vd)) hq.2
      | own w => exact hq.elim
      | top i => exact hq.elim
    · obtain ⟨Z3, z3, _, r3⟩ := back σ' H' Z' s' hz kk.1 kk.2 rl
      exact eo.bk σ' H' Z3 _ z3 (kp σ' kk.1 kk.2) r3 hq
    · obtain ⟨Z3, z3, _, r3⟩ := back σ' H' Z' s' hz kk.1 kk.2 rl
      exact eo.ct σ' H' Z3 _ z3 (kp σ' kk.1 kk.2) r3 hq)⟩
/-! ### a method that only reads its list -/
abbrev MR := D → List D → (D → Prop) → Prop
def fMt (g : MR) (a : FE) (r : FA) : FE := fun X s Q => a X s fun ro s1 => look s1 ro fun d0 => match d0 with
  | .list _ => r X s1 fun rs s2 => frzAll (ro :: rs) s2 fun ds s3 => match ds with
    | d :: es => g d es fun x => Q (.d x) s3
    | [] => False
  | _ => False
def rMt (K : PySem.W.Frag) (g : MR) : V → List V → Hp → VK → Prop := fun x us H Q => ∃ Z d ds Qf, Same Z H ∧ Rp K Z x d ∧ RpAll K Z us ds ∧ g d ds Qf ∧ ∀ u d', Qf d' → Rp K Z u d' → Q u H
section
variable {X : Cx} {L : Lv} {e o : Expr} {es : List Expr} {fa : FE} {fr : FA} {g : MR}
theorem fMt_ok' {n : Nat} {σ : St} {H : Hp} {Q : VK} (h : liftE X L (fMt g fa fr) σ H Q) : tBM X.K "list" (rMt X.K g) (liftE X L fa) (liftA X L n fr) σ H Q := by
  obtain ⟨Z, Y, s, Xf, Qf, r, k, xo, h, q⟩ := h
  refine ⟨Z, Y, s, Xf, _, r, k, xo, h, fun v H1 Z1 r1 s1 hz rx h1 => ?_⟩
  obtain ⟨d0, e1, h2⟩ := look_ok h1
  obtain ⟨v', ev, rv⟩ := rx.look (k := 0) rfl e1
  cases ev
  split at h2
  · obtain ⟨p, vs, rfl, g1, g2, g3⟩ := rv.list rx.rel0.zh
    obtain ⟨Y', hy, rl, bk, fw⟩ := rx.frame
    refine ⟨.inl ⟨rfl, vs, .inl g1⟩, Z1, Y', s1, Xf, _, rl, k, (xo.z hz).mono (Same.refl _) bk, h2, fun us H2 Z2 rs s2 hz2 rx2 hn h3 => ?_⟩
    have rx3 := fw Z2 H2 s2 us rs hz2 rx2
    obtain ⟨Z3, ds, s3, hz3, rx4, h4⟩ := frzAll_ok (us := []) (ds := []) rx3 rfl h3
    have ra := rx4.rps
    cases ra with
    | cons rd ra =>
      exact ⟨Z3, _, _, _, rx4.rel0.zh, rd, ra, h4, fun u d' hq ru => q u H2 Z3 _ s3 ((hz.trans hz2).trans hz3) (.d rx4.rel0 ru) hq⟩
  · exact h2.elim
variable {nm : Str} {apos cpos : Pos} {id : String}
theorem pf_mt (slot : Slot "list" nm id) (hty : typeOf (.builtin id) = pure (.type "method_descriptor")) (hm : MtR X id (rMt X.K g)) (ho : PF X L o fa) (ha : PFA X L (e :: es) fr)
    (hbase : attributeBase o nm X.env (eval o X.env) = eval o X.env := by rfl)
    (hfew : ((backTo cpos (starEach (e :: es) X.env)).all (fun x => !x.1) && (backToKw cpos (keywordEach [] X.env)).all (fun x => x.1.isSome)
      && decide ((e :: es).length + ([] : List Keyword).length + (if ([] : List Keyword).isEmpty then 0 else 1) < 30)) = true := by rfl)
    (hline : (apos.endLine == cpos.line) = true := by rfl) (hs : starEach (e :: es) X.env = (false, eval e X.env) :: starEach es X.env := by rfl) (hplain : (backTo cpos (starEach es X.env)).any (·.1) = false := by rfl) :
    PF X L (.Call (.Attribute o nm apos) (e :: es) [] cpos) (fMt g fa fr) := PE_imp (pe_bm PySem.F.plainAttrs_list slot hty hm ho ha hbase hfew hline hs hplain) fun _ _ _ => fMt_ok'
def gCountB : MR := fun d ds k => match d, ds with
  | .list xs, [.bool b] => match boolsOf xs with
    | some bs => k (.int (bs.count b : Nat))
    | none => False
  | _, _ => False
theorem fr_countB : MtR X "list.count" (rMt X.K gCountB) := by
  intro pins s σ H x us v vs Q I rx rv ⟨Z, d, ds, Qf, hz, rd, ra, g, q⟩
  unfold gCountB at g
  split at g
  · rename_i xs0 bb
    split at g
    · rename_i bs eb
      cases ra with
      | cons r1 r2 =>
        cases r2
        cases r1
        cases rd with
        | lst h z a =>
          rw [boolsOf_eq eb] at a
          rw [a.bools] at h
          cases rx
          obtain ⟨u, rfl, ru⟩ := rv.one
          cases ru
          obtain ⟨_, its, n, r, e⟩ := (same_rd hz h).ok I.hok
          refine call_meets PySem.F.slot_list_count ⟨_, e, rfl⟩ PySem.F.entry_list_count (PySem.F.args_list_count_2 _ _)
            (SeqAt.list_countAt _ its.toArray n _ _ (.bool bb) (eqkB bb)) ⟨e, fun y hy => ?_, ?_⟩
          · obtain ⟨c, rfl⟩ := bools_are r y (by simpa using hy)
            exact SeqAt.EqAt.bool_bool c bb
          · have ec : its.toArray.toList.countP (eqkB bb) = bs.count bb := bools_count r
            refine ⟨.int (bs.count bb : Nat), H, I.tok _, ⟨s.toks, ?_⟩, q _ _ g (.int _)⟩
            show Value.int ((its.toArray.toList.countP (eqkB bb) : Nat) : Int) s.toks = Value.int ((bs.count bb : Nat) : Int) s.toks
            rw [ec]
    · exact g.elim
  · exact g.elim
end
end Hs
/-! HsT: steps through a text's semantics; loops by invariants. -/
namespace Hs
open PySem
/-! ### states, by their shape alone -/
class Get (s : S) (i : Nat) (v : outParam SV) : Prop where e : s.getD i .no = v
class Put (s : S) (i : Nat) (v : SV) (s' : outParam S) : Prop where e : s.set i v = s'
class Pad (s : S) (n : Nat) (s' : outParam S) : Prop where e : s ++ List.replicate n .no = s'
instance getZ {v : SV} {s : S} : Get (v :: s) 0 v := ⟨rfl⟩
instance getS {v w : SV} {s : S} {i : Nat} [h : Get s i v] : Get (w :: s) (i + 1) v := ⟨h.e⟩
instance putZ {v w : SV} {s : S} : Put (w :: s) 0 v (v :: s) := ⟨rfl⟩
instance putS {v w : SV} {s s' : S} {i : Nat} [h : Put s i v s'] : Put (w :: s) (i + 1) v (w :: s') := ⟨by rw [List.set_cons_succ, h.e]⟩
instance padZ : Pad [] 0 [] := ⟨rfl⟩
instance padS {s : S} {n : Nat} [h : Pad [] n s] : Pad [] (n + 1) (.no :: s) := ⟨by rw [← h.e]; rfl⟩
instance padC {v : SV} {s s' : S} {n : Nat} [h : Pad s n s'] : Pad (v :: s) n (v :: s') := ⟨by rw [← h.e]; rfl⟩
section
variable {s' s'' : S}
variable {nx bk ct : S → Prop} {rt : R → S → Prop} {X xx : XF} {s : S} {a b c e : FE} {t u : FT} {f1 f2 : FS} {Q : R → S → Prop} {i j : Nat} {x y : D} {v : SV} {g g' : V2} {r : R} {rs : List R} {A B : Prop}

/-! ### statements -/
theorem st_seq (h : f1 ⟨fun s1 => f2 ⟨nx, rt, bk, ct, xx⟩ s1, rt, bk, ct, xx⟩ s) : fSeq f1 f2 ⟨nx, rt, bk, ct, xx⟩ s := h
/-- the ways through the first part meet -/
theorem st_join (P : S → Prop) (hrest : ∀ s', P s' → f2 ⟨nx, rt, bk, ct, xx⟩ s') (h : ∀ k : S → Prop, (∀ s', P s' → k s') → f1 ⟨k, rt, bk, ct, xx⟩ s) : fSeq f1 f2 ⟨nx, rt, bk, ct, xx⟩ s := h _ hrest
theorem st_asg (h : a xx s fun r s1 => putR i r s1 nx) : fAsg i a ⟨nx, rt, bk, ct, xx⟩ s := h
theorem st_next (h : nx s) : fNext ⟨nx, rt, bk, ct, xx⟩ s := h
theorem st_if (h : t xx s fun c s1 => if c = true then f1 ⟨nx, rt, bk, ct, xx⟩ s1 else f2 ⟨nx, rt, bk, ct, xx⟩ s1) : fIfS t f1 f2 ⟨nx, rt, bk, ct, xx⟩ s := h
theorem st_ret (h : a xx s rt) : fRet a ⟨nx, rt, bk, ct, xx⟩ s := h
theorem st_retN (h : rt (.d .none) s) : fRetN ⟨nx, rt, bk, ct, xx⟩ s := h
theorem st_break (h : bk s) : fBreak ⟨nx, rt, bk, ct, xx⟩ s := h
theorem st_drop (h : a xx s fun _ s1 => nx s1) : fDrop a ⟨nx, rt, bk, ct, xx⟩ s := h
theorem st_raise {n : Str} (h : xx n s) : fRaise n ⟨nx, rt, bk, ct, xx⟩ s := h
theorem st_put_d {k : S → Prop} [p : Put s i (.d x) s'] (h : k s') : putR i (.d x) s k := by rw [← p.e] at h; exact h
theorem st_put_own {k : S → Prop} [p : Put s i v s'] (h : k s') : putR i (.own v) s k := by rw [← p.e] at h; exact h
theorem st_put_top {k : S → Prop} (e : asD (s.getD j .no) = some x) (h : k ((s.set j (.d x)).set i (.d x))) : putR i (.top j) s k := by unfold putR; dsimp only; rw [e]; exact h
theorem st_put_top_l {k : S → Prop} {xs : List D} [g : Get s j (.l xs)] [p : Put s j (.d (.list xs)) s'] [p2 : Put s' i (.d (.list xs)) s''] (h : k s'') : putR i (.top j) s k :=
  st_put_top (x := .list xs) (by rw [g.e]; rfl) (by rw [p.e, p2.e]; exact h)
theorem st_put_top_ll {k : S → Prop} {xs : List (List D)} [g : Get s j (.ll xs)] [p : Put s j (.d (.list (xs.map .list))) s'] [p2 : Put s' i (.d (.list (xs.map .list))) s''] (h : k s'') : putR i (.top j) s k :=
  st_put_top (x := .list (xs.map .list)) (by rw [g.e]; rfl) (by rw [p.e, p2.e]; exact h)
theorem st_put_top_dc {k : S → Prop} {xs : List (D × D)} [g : Get s j (.dc xs)] [p : Put s j (.d (.dict xs)) s'] [p2 : Put s' i (.d (.dict xs)) s''] (h : k s'') : putR i (.top j) s k :=
  st_put_top (x := .dict xs) (by rw [g.e]; rfl) (by rw [p.e, p2.e]; exact h)
theorem st_unp {fg : FG} (h : a xx s fun r s1 => frz r s1 fun d s2 => fg d s2 nx) : fUnp fg a ⟨nx, rt, bk, ct, xx⟩ s := h
theorem st_par {fa : FA} (h : fa xx s fun rs s2 => match rs with | [r1, r2] => frz r1 s2 fun d1 s3 => frz r2 s3 fun d2 s4 => putR i (.d d1) s4 fun s5 => putR j (.d d2) s5 nx | _ => False) : fPar i j fa ⟨nx, rt, bk, ct, xx⟩ s := h
theorem st_setIx (h : a xx s fun r s1 => onL i s1 fun _ => b xx s1 fun rj s2 => match rj with
  | .d (.int k) => frz r s2 fun d s3 => onL i s3 fun xs => 0 ≤ k ∧ k.toNat < xs.length ∧ putR i (.own (.l (xs.set k.toNat d))) s3 nx
  | _ => False) : fSetIx i b a ⟨nx, rt, bk, ct, xx⟩ s := h
theorem st_onL {k : List D → Prop} {xs : List D} [e : Get s i (.l xs)] (h : k xs) : onL i s k := by unfold onL; rw [e.e]; exact h
/-- slots forgotten -/
def wipeK (s : S) (wp : List Nat) (k : S → Prop) : Prop := k (wipeS s wp)
theorem st_wipe_nil {k : S → Prop} (h : k s) : wipeK s [] k := h
theorem st_wipe_cons {k : S → Prop} {is : List Nat} [p : Put s i .no s'] (h : wipeK s' is k) : wipeK s (i :: is) k := by rw [← p.e] at h; exact h
theorem st_for {it : FI} {fg : FG} {wp : List Nat} (h : it xx s fun xs s1 => wipeK s1 wp fun s2 => fLoop fg wp f1 ⟨nx, rt, bk, ct, xx⟩ xs s2) : fFor it fg wp f1 ⟨nx, rt, bk, ct, xx⟩ s := h

/-! ### expressions -/
theorem st_var_d [e : Get s i (.d x)] (h : Q (.d x) s) : fVar i X s Q := by unfold fVar; rw [e.e]; exact h
theorem st_var_l {xs : List D} [e : Get s i (.l xs)] (h : Q (.top i) s) : fVar i X s Q := by unfold fVar; rw [e.e]; exact h
theorem st_var_ll {xs : List (List D)} [e : Get s i (.ll xs)] (h : Q (.top i) s) : fVar i X s Q := by unfold fVar; rw [e.e]; exact h
theorem st_var_dc {xs : List (D × D)} [e : Get s i (.dc xs)] (h : Q (.top i) s) : fVar i X s Q := by unfold fVar; rw [e.e]; exact h
theorem st_C (h : Q (.d x) s) : fC x X s Q := h
theorem st_nil {k : List R → S → Prop} (h : k [] s) : fNil X s k := h
theorem st_cons {k : List R → S → Prop} {fr : FA} (h : a X s fun x s1 => fr X s1 fun xs s2 => k (x :: xs) s2) : fCons a fr X s k := h
theorem st_tup {fr : FA} (h : fr X s fun rs s1 => frzAll rs s1 fun ds s2 => Q (.d (.tuple ds)) s2) : fTup fr X s Q := h
theorem st_lst {fr : FA} (h : fr X s fun rs s1 => frzAll rs s1 fun ds s2 => Q (.own (.l ds)) s2) : fLst fr X s Q := h
theorem st_op (h : a X s fun r1 s1 => b X s1 fun r2 s2 => look s2 r1 fun d => look s2 r2 fun e => g d e fun r => Q r s2) : fOp g a b X s Q := h
theorem st_un {g1 : V1} (h : a X s fun r1 s1 => look s1 r1 fun d => g1 d fun r => Q r s1) : fUn g1 a X s Q := h
theorem st_blt {gn : VN} {fr : FA} (h : fr X s fun rs s1 => fBlt.lookAll s1 rs fun ds => gn ds fun r => Q r s1) : fBlt gn fr X s Q := h
theorem st_lookAll_nil {k : List D → Prop} (h : k []) : fBlt.lookAll s [] k := h
theorem st_lookAll_cons {k : List D → Prop} (h : look s r fun d => fBlt.lookAll s rs fun ds => k (d :: ds)) : fBlt.lookAll s (r :: rs) k := h
theorem st_andV (h : a X s fun r s1 => isB r fun c => if c = true then b X s1 Q else Q (.d (.bool false)) s1) : fAndV a b X s Q := h
theorem st_orV (h : a X s fun r s1 => isB r fun c => if c = true then Q (.d (.bool true)) s1 else b X s1 Q) : fOrV a b X s Q := h
theorem st_notV (h : a X s fun r s1 => isB r fun c => Q (.d (.bool (!c))) s1) : fNotV a X s Q := h
theorem st_ifE (h : t X s fun c s1 => if c = true then a X s1 Q else b X s1 Q) : fIfE t a b X s Q := h
theorem st_chain (h : a X s fun r1 s1 => b X s1 fun r2 s2 => look s2 r1 fun d => look s2 r2 fun e => g d e fun r => isB r fun k =>
  if k = true then c X s2 fun r3 s3 => look s3 r2 fun e' => look s3 r3 fun h => g' e' h fun z => Q z s3 else Q (.d (.bool false)) s2) : fChain g g' a b c X s Q := h
theorem st_sl {gs : D → Option Int → Option Int → (R → Prop) → Prop} {lo hi : FO} (h : a X s fun r s1 => lo X s1 fun l s2 => hi X s2 fun h s3 => look s3 r fun d => gs d l h fun z => Q z s3) : fSl gs a lo hi X s Q := h
theorem st_noPart {k : Option Int → S → Prop} (h : k none s) : fNoPart X s k := h
theorem st_part {k : Option Int → S → Prop} (h : a X s fun r s1 => match r with | .d (.int i) => k (some i) s1 | _ => False) : fPart a X s k := h
/-- what was lent comes back -/
def putK (ms : List Bool) (rs : List R) (fin s : S) (k : S → Prop) : Prop := k (putB ms rs fin s)
theorem st_putK_nil {fin : S} {k : S → Prop} (h : k s) : putK [] [] fin s k := by
  unfold putK putB; exact h
theorem st_putK_t {ms : List Bool} {fin : S} {f : SV} {k : S → Prop} [p : Put s i f s'] (h : putK ms rs fin s' k) : putK (true :: ms) (.top i :: rs) (f :: fin) s k := by
  rw [← p.e] at h; exact h
theorem st_putK_td {ms : List Bool} {fin : S} {f : SV} {k : S → Prop} (h : putK ms rs fin s k) : putK (true :: ms) (.d x :: rs) (f :: fin) s k := h
theorem st_putK_to {ms : List Bool} {fin : S} {f : SV} {k : S → Prop} (h : putK ms rs fin s k) : putK (true :: ms) (.own v :: rs) (f :: fin) s k := h
theorem st_putK_f {ms : List Bool} {fin : S} {f : SV} {k : S → Prop} (h : putK ms rs fin s k) : putK (false :: ms) (r :: rs) (f :: fin) s k := h
theorem st_call {sem : FSem} {ms : List Bool} {fr : FA} (h : fr X s fun rs s1 => bindA ms rs s1 fun svs s2 => sem svs (fun n fin => X n (putB ms rs fin s2)) fun r fin => putK ms rs fin s2 fun s3 => Q r s3) : fCall sem ms fr X s Q := h
theorem putB_none : ∀ {ms : List Bool} {rs : List R} {fin s : S}, ms.all (!·) = true → putB ms rs fin s = s
  | [], _, _, _, _ => by unfold putB; rfl
  | true :: _, _, _, _, h => by simp at h
  | false :: ms, [], _, _, _ => by unfold putB; rfl
  | false :: ms, _ :: _, [], _, _ => by unfold putB; rfl
  | false :: ms, _ :: rs, _ :: fin, s, h => by
    unfold putB
    exact putB_none (by simpa using h)
theorem st_callF {sem : FSem} {ms : List Bool} {fr : FA} (e : ms.all (!·) = true) (h : fr X s fun rs s1 => bindA ms rs s1 fun svs s2 => sem svs (fun n _ => X n s2) fun r _ => Q r s2) : fCall sem ms fr X s Q := by
  have q : ∀ (rs : List R) (s2 : S), (fun n fin => X n (putB ms rs fin s2)) = fun (n : Str) (fin : S) => X n s2 := fun rs s2 => by
    funext n fin; rw [putB_none e]
  have q2 : ∀ (rs : List R) (s2 : S), (fun r fin => Q r (putB ms rs fin s2)) = fun (r : R) (fin : S) => Q r s2 := fun rs s2 => by
    funext n fin; rw [putB_none e]
  unfold fCall
  simp only [q, q2]
  exact h
theorem st_lc {it : FI} {fg : FG} {wp : List Nat} (h : it X s fun xs s1 => xs.length ≤ sizeLine ∧ wipeK s1 wp fun s2 => fComp (fun _ _ => False) fg wp t e Q xs [] s2) : fLc it fg wp t e X s Q := h
theorem st_lm {lm : LM} {fr : FA} (h : onL i s fun _ => fr X s fun rs s1 => frzAll rs s1 fun ds s2 => onL i s2 fun xs => lm xs ds fun d xs' => putR i (.own (.l xs')) s2 fun s3 => Q (.d d) s3) : fLm i lm fr X s Q := h
/-! ### tests -/
variable {q : Bool → S → Prop}
theorem st_B (h : a X s fun r s1 => isB r fun c => q c s1) : fB a X s q := h
theorem st_and (h : t X s fun c s1 => if c = true then u X s1 q else q false s1) : fAnd t u X s q := h
theorem st_or (h : t X s fun c s1 => if c = true then q true s1 else u X s1 q) : fOr t u X s q := h
theorem st_not (h : t X s fun c s1 => q (!c) s1) : fNot t X s q := h
theorem st_yes (h : q true s) : fYes X s q := h
theorem st_isB {k : Bool → Prop} {z : Bool} (h : k z) : isB (.d (.bool z)) k := h
theorem st_t (h : A) : if true = true then A else B := by simpa using h
theorem st_f (h : B) : if false = true then A else B := by simpa using h
theorem st_nt (h : B) : if (!true) = true then A else B := by simpa using h
theorem st_nf (h : A) : if (!false) = true then A else B := by simpa using h
theorem st_ite {z : Bool} (h1 : z = true → A) (h2 : z = false → B) : if z = true then A else B := by
  cases z
  · simpa using h2 rfl
  · simpa using h1 rfl
theorem st_iteT {z : Bool} (e : z = true) (h : A) : if z = true then A else B := by rw [if_pos e]; exact h
theorem st_iteF {z : Bool} (e : z = false) (h : B) : if z = true then A else B := by rw [if_neg (by simp [e])]; exact h
/-! ### what comes -/
theorem st_look_d {k : D → Prop} (h : k x) : look s (.d x) k := h
theorem st_look_own {k : D → Prop} {xs : List D} (h : k (.list xs)) : look s (.own (.l xs)) k := h
theorem st_look_own_dc {k : D → Prop} {xs : List (D × D)} (h : k (.dict xs)) : look s (.own (.dc xs)) k := h
theorem st_look_top {k : D → Prop} {xs : List D} [e : Get s i (.l xs)] (h : k (.list xs)) : look s (.top i) k := by
  unfold look
  rw [show viewR s (.top i) = some (.list xs) by show viewS (s.getD i .no) = _; rw [e.e]; rfl]; exact h
theorem st_look_top_d {k : D → Prop} [e : Get s i (.d x)] (h : k x) : look s (.top i) k := by
  unfold look viewR
  dsimp only
  rw [e.e]
  exact h
theorem st_look_top_dc {k : D → Prop} {xs : List (D × D)} [e : Get s i (.dc xs)] (h : k (.dict xs)) : look s (.top i) k := by
  unfold look
  rw [show viewR s (.top i) = some (.dict xs) by show viewS (s.getD i .no) = _; rw [e.e]; rfl]; exact h
theorem st_frz_d {k : D → S → Prop} (h : k x s) : frz (.d x) s k := h
theorem st_frz_own {k : D → S → Prop} {xs : List D} (h : k (.list xs) s) : frz (.own (.l xs)) s k := h
theorem st_frz_own_ll {k : D → S → Prop} {xs : List (List D)} (h : k (.list (xs.map .list)) s) : frz (.own (.ll xs)) s k := h
theorem st_frz_own_dc {k : D → S → Prop} {xs : List (D × D)} (h : k (.dict xs) s) : frz (.own (.dc xs)) s k := h
theorem frz_top' {k : D → S → Prop} (e : asD (s.getD i .no) = some x) (h : k x (s.set i (.d x))) : frz (.top i) s k := by unfold frz; dsimp only; rw [e]; exact h
theorem st_frz_top {k : D → S → Prop} {xs : List D} [e : Get s i (.l xs)] [p : Put s i (.d (.list xs)) s'] (h : k (.list xs) s') : frz (.top i) s k := frz_top' (x := .list xs) (by rw [e.e]; rfl) (by rw [p.e]; exact h)
theorem st_frz_top_ll {k : D → S → Prop} {xs : List (List D)} [e : Get s i (.ll xs)] [p : Put s i (.d (.list (xs.map .list))) s'] (h : k (.list (xs.map .list)) s') : frz (.top i) s k := frz_top' (x := .list (xs.map .list)) (by rw [e.e]; rfl) (by rw [p.e]; exact h)
theorem st_frz_top_dc {k : D → S → Prop} {xs : List (D × D)} [e : Get s i (.dc xs)] [p : Put s i (.d (.dict xs)) s'] (h : k (.dict xs) s') : frz (.top i) s k := frz_top' (x := .dict xs) (by rw [e.e]; rfl) (by rw [p.e]; exact h)
theorem st_frzAll_nil {k : List D → S → Prop} (h : k [] s) : frzAll [] s k := h
theorem st_frzAll_cons {k : List D → S → Prop} (h : frz r s fun x s1 => frzAll rs s1 fun xs s2 => k (x :: xs) s2) : frzAll (r :: rs) s k := h
variable {ms : List Bool} {kb : List SV → S → Prop}
theorem st_bind_nil (h : kb [] s) : bindA [] [] s kb := h
theorem st_bind_f (h : frz r s fun x s1 => bindA ms rs s1 fun svs s2 => kb (.d x :: svs) s2) : bindA (false :: ms) (r :: rs) s kb := h
theorem st_bind_tt [g : Get s i v] [p : Put s i .no s'] (h : bindA ms rs s' fun svs s2 => kb (v :: svs) s2) : bindA (true :: ms) (.top i :: rs) s kb := by
  rw [← p.e, ← g.e] at h; exact h
theorem st_bind_td (h : bindA ms rs s fun svs s2 => kb (.d x :: svs) s2) : bindA (true :: ms) (.d x :: rs) s kb := h
theorem st_bind_to (h : bindA ms rs s fun svs s2 => kb (v :: svs) s2) : bindA (true :: ms) (.own v :: rs) s kb := h
theorem st_out_d {k : R → S → Prop} (h : k (.d x) s) : outR (.d x) s k := h
theorem st_out_own {k : R → S → Prop} (h : k (.own v) s) : outR (.own v) s k := h
theorem st_out_top {k : R → S → Prop} [g : Get s i v] [p : Put s i .no s'] (h : k (.own v) s') : outR (.top i) s k := by
  rw [← p.e, ← g.e] at h; exact h
/-! ### walks -/
variable {kl : List D → S → Prop} {fr : FA} {ds : List D} {n m : Int}
theorem st_seqI (h : a X s fun r s1 => frz r s1 fun d s2 => match d with | .list xs => kl xs s2 | .tuple xs => kl xs s2 | _ => False) : iSeq a X s kl := h
theorem st_range1 (h : fr X s fun rs s1 => match rs with | [.d (.int j)] => lim62 j ∧ kl (rangeD 0 j.toNat) s1 | _ => False) : iRange1 fr X s kl := h
theorem st_range2 (h : fr X s fun rs s2 => match rs with | [.d (.int i), .d (.int j)] => lim62 i ∧ lim62 j ∧ kl (rangeD i (j - i).toNat) s2 | _ => False) : iRange2 fr X s kl := h
theorem st_enum (h : fr X s fun rs s1 => frzAll rs s1 fun ds s2 => match ds with
  | [.list xs] => kl (enumD xs) s2
  | [.tuple xs] => kl (enumD xs) s2
  | _ => False) : iEnum fr X s kl := h
theorem st_zip (h : fr X s fun rs s1 => frzAll rs s1 fun ds s4 => match ds with
  | [.list xs, .list ys] => kl (zipD xs ys) s4
  | [.tuple xs, .list ys] => kl (zipD xs ys) s4
  | [.list xs, .tuple ys] => kl (zipD xs ys) s4
  | [.tuple xs, .tuple ys] => kl (zipD xs ys) s4
  | _ => False) : iZip fr X s kl := h
/-! ### targets -/
theorem st_nm {k : S → Prop} [p : Put s i (.d x) s'] (h : k s') : gNm i x s k := by rw [← p.e] at h; exact h
/-- a def's body begins -/
theorem st_sem {np nl n : Nat} {svs : S} {f : FS} (e : nl = n + np) [p : Pad svs n s] (h : f ⟨fun s => Q (.d .none) (s.take np), fun r s => outR r s fun r' s' => Q r' (s'.take np), fun _ => False, fun _ => False, fun n s => X n (s.take np)⟩ s) : semOf np nl f svs X Q := by
  subst e
  rw [← p.e] at h
  unfold semOf
  rw [Nat.add_sub_cancel]
  exact h
theorem st_tp {k : S → Prop} {fgs : List FG} (h : gTp.gTps fgs ds s k) : gTp fgs (.tuple ds) s k := h
theorem st_tps_nil {k : S → Prop} (h : k s) : gTp.gTps [] [] s k := h
theorem st_tps_cons {k : S → Prop} {fg : FG} {fgs : List FG} (h : fg x s fun s1 => gTp.gTps fgs ds s1 k) : gTp.gTps (fg :: fgs) (x :: ds) s k := h
/-! ### operators -/
variable {k : R → Prop} {xs ys : List D}
theorem st_add_i (h : k (.d (.int (n + m)))) : opAdd (.int n) (.int m) k := h
theorem st_add_l (z : xs.length + ys.length ≤ sizeLine) (h : k (.own (.l (xs ++ ys)))) : opAdd (.list xs) (.list ys) k := ⟨z, h⟩
theorem st_add_t (z : xs.length + ys.length ≤ sizeLine) (h : k (.d (.tuple (xs ++ ys)))) : opAdd (.tuple xs) (.tuple ys) k := ⟨z, h⟩
theorem st_sub_i (h : k (.d (.int (n - m)))) : opSub (.int n) (.int m) k := h
theorem st_mul_i (z : okM n m) (h : k (.d (.int (n * m)))) : opMul (.int n) (.int m) k := ⟨z, h⟩
theorem st_fdiv_i (z : okD m) (h : k (.d (.int (n / m)))) : opFdiv (.int n) (.int m) k := ⟨z, h⟩
theorem st_mod_i (z : 0 < m) (h : k (.d (.int (n % m)))) : opMod (.int n) (.int m) k := ⟨z, h⟩
theorem st_pow_i (z1 : 0 ≤ m) (z2 : m ≤ 1000000) (z3 : n.natAbs < 2 ^ 64) (h : k (.d (.int (n ^ m.toNat)))) : opPow (.int n) (.int m) k := ⟨z1, z2, z3, h⟩
instance {j : Int} : Decidable (okD j) := by unfold okD; infer_instance
instance {i j : Int} : Decidable (okM i j) := by unfold okM; infer_instance
instance {i : Int} : Decidable (lim62 i) := by unfold lim62; infer_instance
theorem lg_le {n k : Nat} (h : n < 2 ^ k) : n.log2 ≤ k := by
  by_cases h0 : n = 0
  · subst h0; simp
  · exact Nat.le_of_lt ((Nat.log2_lt h0).mpr h)
/-- a bound of both factors -/
theorem okM_of (p q : Nat) {i j : Int} (h1 : i.natAbs < 2 ^ p) (h2 : j.natAbs < 2 ^ q) (h : p + q < 1000000 := by decide) : okM i j := by
  have := lg_le h1
  have := lg_le h2
  unfold okM
  omega
theorem okD_of (q : Nat) {j : Int} (h0 : 0 < j) (h2 : j.natAbs < 2 ^ q) (h : q < 9000 := by decide) : okD j := ⟨h0, by have := lg_le h2; omega⟩
theorem st_neg_i (h : k (.d (.int (-n)))) : uNeg (.int n) k := h
theorem st_eq_i (h : k (.d (.bool (decide (n = m))))) : cEq (.int n) (.int m) k := .inr ⟨rfl, rfl, h⟩
theorem st_ne_i (h : k (.d (.bool (!decide (n = m))))) : cNe (.int n) (.int m) k := .inr ⟨rfl, rfl, h⟩
theorem st_eq_b {p q : Bool} (h : k (.d (.bool (p == q)))) : cEq (.bool p) (.bool q) k := .inr ⟨rfl, rfl, by cases p <;> cases q <;> exact h⟩
theorem st_ne_b {p q : Bool} (h : k (.d (.bool (!(p == q))))) : cNe (.bool p) (.bool q) k := .inr ⟨rfl, rfl, by cases p <;> cases q <;> exact h⟩
theorem st_eq (z1 : SeqAt.shaped (unlit x) = true) (z2 : SeqAt.shaped (unlit y) = true) (h : k (.d (.bool (PyData.eqv (unlit x) (unlit y))))) : cEq x y k := .inr ⟨z1, z2, h⟩
theorem st_ne (z1 : SeqAt.shaped (unlit x) = true) (z2 : SeqAt.shaped (unlit y) = true) (h : k (.d (.bool (!PyData.eqv (unlit x) (unlit y))))) : cNe x y k := .inr ⟨z1, z2, h⟩
theorem st_eq_str {p q : Str} (h : k (.d (.bool (decide (p = q))))) : cEq (.str p) (.str q) k := .inl ⟨p, q, rfl, rfl, h⟩
theorem st_ne_str {p q : Str} (h : k (.d (.bool (!decide (p = q))))) : cNe (.str p) (.str q) k := .inl ⟨p, q, rfl, rfl, h⟩
theorem st_lt_i (h : k (.d (.bool (decide (n < m))))) : cLt (.int n) (.int m) k := h
theorem st_le_i (h : k (.d (.bool (decide (n ≤ m))))) : cLe (.int n) (.int m) k := h
theorem st_gt_i (h : k (.d (.bool (decide (m < n))))) : cGt (.int n) (.int m) k := h
theorem st_ge_i (h : k (.d (.bool (decide (m ≤ n))))) : cGe (.int n) (.int m) k := h
theorem st_is_n (h : k (.d (.bool (isNone x)))) : cIs x .none k := by cases x <;> exact h
theorem st_isNot_n (h : k (.d (.bool (!isNone x)))) : cIsNot x .none k := by cases x <;> exact h
theorem st_is_b {p q : Bool} (h : k (.d (.bool (decide (p = q))))) : cIs (.bool p) (.bool q) k := h
theorem st_isNot_b {p q : Bool} (h : k (.d (.bool (!decide (p = q))))) : cIsNot (.bool p) (.bool q) k := h
theorem st_ix_l (e : L2.atI xs n = some x) (h : k (.d x)) : ixD (.list xs) (.int n) k := by
  show (match L2.atI xs n with | some x => k (.d x) | none => False)
  rw [e]; exact h
theorem st_ix_t (e : L2.atI xs n = some x) (h : k (.d x)) : ixD (.tuple xs) (.int n) k := by
  show (match L2.atI xs n with | some x => k (.d x) | none => False)
  rw [e]; exact h
theorem st_ix_lit {ns : List Int} {z : Int} (e : L2.atI ns n = some z) (h : k (.d (.int z))) : ixD (litD ns) (.int n) k := by
  show (match L2.atI (ns.map PyData.int) n with | some x => k (.d x) | none => False)
  rw [show L2.atI (ns.map PyData.int) n = some (.int z) by
    unfold L2.atI at e ⊢
    rw [List.length_map]
    cases q : L2.ixN ns.length n with
    | none => rw [q] at e; cases e
    | some j =>
      rw [q] at e
      show (ns.map PyData.int)[j]? = _
      rw [List.getElem?_map, show ns[j]? = some z from e]; rfl]
  exact h
theorem st_len_l (h : k (.d (.int (xs.length : Nat)))) : bLen [.list xs] k := h
theorem st_len_t (h : k (.d (.int (xs.length : Nat)))) : bLen [.tuple xs] k := h
theorem st_len_lit {ns : List Int} (h : k (.d (.int (ns.length : Nat)))) : bLen [litD ns] k := by
  show k (.d (.int ((ns.map PyData.int).length : Nat)))
  rw [List.length_map]; exact h
theorem st_abs (h : k (.d (.int (n.natAbs : Nat)))) : bAbs [.int n] k := by
  show k (.d (.int (if n < 0 then -n else n)))
  rw [show (if n < 0 then -n else n) = ((n.natAbs : Nat) : Int) by split <;> omega]
  exact h
theorem st_max2 (h : k (.d (.int (max n m)))) : bMax2 [.int n, .int m] k := by
  show k (.d (.int (if m > n then m else n)))
  rw [show (if m > n then m else n) = max n m by split <;> omega]
  exact h
theorem st_min2 (h : k (.d (.int (min n m)))) : bMin2 [.int n, .int m] k := by
  show k (.d (.int (if m < n then m else n)))
  rw [show (if m < n then m else n) = min n m by split <;> omega]
  exact h
theorem st_int_i (h : k (.d (.int n))) : bInt [.int n] k := h
theorem st_int_b {p : Bool} (h : k (.d (.int (if p then 1 else 0)))) : bInt [.bool p] k := h
theorem st_tuple_l (h : k (.d (.tuple xs))) : bTuple [.list xs] k := h
theorem st_tuple_t (h : k (.d (.tuple xs))) : bTuple [.tuple xs] k := h
theorem st_list_l (h : k (.own (.l xs))) : bList [.list xs] k := h
theorem st_list_t (h : k (.own (.l xs))) : bList [.tuple xs] k := h
theorem boolsOf_map' : ∀ bs : List Bool, boolsOf (bs.map PyData.bool) = some bs
  | [] => rfl
  | b :: bs => by show (boolsOf (bs.map PyData.bool)).map (b :: ·) = _; rw [boolsOf_map' bs]; rfl
theorem intsOf_map' : ∀ bs : List Int, intsOf (bs.map PyData.int) = some bs
  | [] => rfl
  | b :: bs => by show (intsOf (bs.map PyData.int)).map (b :: ·) = _; rw [intsOf_map' bs]; rfl
theorem st_all {bs : List Bool} (e : xs = bs.map PyData.bool) (h : k (.d (.bool (bs.all id)))) : bAll [.list xs] k := by
  show (match boolsOf xs with | some bs => k (.d (.bool (bs.all id))) | none => False)
  rw [e, boolsOf_map']; exact h
theorem st_any {bs : List Bool} (e : xs = bs.map PyData.bool) (h : k (.d (.bool (bs.any id)))) : bAny [.list xs] k := by
  show (match boolsOf xs with | some bs => k (.d (.bool (bs.any id))) | none => False)
  rw [e, boolsOf_map']; exact h
theorem st_isT {T : String} (e : isLit x = false) (h : k (.d (.bool (isTy T x)))) : bIs T x k := ⟨e, h⟩
theorem st_iteND {p : Prop} [Decidable p] (e : p) (h : B) : if (!decide p) = true then A else B := by rw [if_neg (by simp [e])]; exact h
theorem st_iteNF {p : Prop} [Decidable p] (e : ¬ p) (h : A) : if (!decide p) = true then A else B := by rw [if_pos (by simp [e])]; exact h
theorem st_iteLen {xs : List D} {m : Int} (e : ((xs.length : Nat) : Int) = m) (h : A) : if decide (((xs.length : Nat) : Int) = m) = true then A else B := by rw [if_pos (by simp [e])]; exact h
theorem st_iteNLen {xs : List D} {m : Int} (e : ((xs.length : Nat) : Int) = m) (h : B) : if (!decide (((xs.length : Nat) : Int) = m)) = true then A else B := by rw [if_neg (by simp [e])]; exact h
theorem st_iteBB {z : Bool} (h : B) : if (!(z == z)) = true then A else B := by rw [if_neg (by simp)]; exact h
theorem st_isTT {T : String} (e : isTy T x = true) (h : A) : if isTy T x = true then A else B := by rw [if_pos e]; exact h
theorem st_isTF {T : String} (e : isTy T x = false) (h : B) : if isTy T x = true then A else B := by rw [if_neg (by simp [e])]; exact h
theorem st_isNT {T : String} (e : isTy T x = true) (h : B) : if (!isTy T x) = true then A else B := by rw [if_neg (by simp [e])]; exact h
theorem st_isNF {T : String} (e : isTy T x = false) (h : A) : if (!isTy T x) = true then A else B := by rw [if_pos (by simp [e])]; exact h
theorem st_append {kk : D → List D → Prop} (z : xs.length < sizeLine) (h : kk .none (xs ++ [x])) : mAppend xs [x] kk := ⟨z, h⟩
theorem st_extend {kk : D → List D → Prop} (z : xs.length + ys.length ≤ sizeLine) (h : kk .none (xs ++ ys)) : mExtend xs [.list ys] kk := ⟨z, h⟩
theorem st_sl_l {lo hi : Option Int} (h : k (.own (.l (slD.cutL xs lo hi)))) : slD (.list xs) lo hi k := h
theorem st_sl_t {lo hi : Option Int} (h : k (.d (.tuple (slD.cutL xs lo hi)))) : slD (.tuple xs) lo hi k := h

/-! ### loops by invariants -/
theorem loop_for {fg : FG} {wp : List Nat} (I : List D → S → Prop) (hend : ∀ s, I [] s → nx s)
    (hstep : ∀ x xs s (k : S → Prop), I (x :: xs) s → (∀ s', I xs s' → k s') → fg x s fun s1 => f1 ⟨fun s2 => k (wipeS s2 wp), rt, fun s2 => wipeK s2 wp nx, fun s2 => k (wipeS s2 wp), xx⟩ s1) :
    ∀ xs s, I xs s → fLoop fg wp f1 ⟨nx, rt, bk, ct, xx⟩ xs s
  | [], s, h => hend s h
  | x :: xs, s, h => hstep x xs s (fLoop fg wp f1 ⟨nx, rt, bk, ct, xx⟩ xs) h fun s' h' => loop_for I hend hstep xs s' h'
/-- the state at the loop's head is always one of a function of what has been walked -/
theorem loop_fold {fg : FG} {wp : List Nat} {α : Type} (st : α → S) (step : α → D → α) (P : α → List D → Prop) (hend : ∀ a, P a [] → nx (st a))
    (hstep : ∀ x xs a (k : S → Prop), P a (x :: xs) → (P (step a x) xs → k (st (step a x))) → fg x (st a) fun s1 => f1 ⟨fun s2 => k (wipeS s2 wp), rt, fun s2 => wipeK s2 wp nx, fun s2 => k (wipeS s2 wp), xx⟩ s1) :
    ∀ xs a, P a xs → fLoop fg wp f1 ⟨nx, rt, bk, ct, xx⟩ xs (st a)
  | [], a, h => hend a h
  | x :: xs, a, h => hstep x xs a (fLoop fg wp f1 ⟨nx, rt, bk, ct, xx⟩ xs) h fun h' => loop_fold st step P hend hstep xs _ h'
theorem rangeD_cons {lo : Int} {n : Nat} : rangeD lo (n + 1) = .int lo :: rangeD (lo + 1) n := by
  unfold rangeD
  rw [List.range_succ_eq_map, List.map_cons, List.map_map]
  simp only [Int.natCast_zero, Int.add_zero, List.cons.injEq, true_and]
  apply List.map_congr_left
  intro k _
  simp only [Function.comp]
  congr 1
  omega
theorem loop_range {fg : FG} {wp : List Nat} (I : Int → S → Prop) {lo hi : Int} (hend : ∀ s, I (max lo hi) s → nx s)
    (hstep : ∀ i s (k : S → Prop), lo ≤ i → i < hi → I i s → (∀ s', I (i + 1) s' → k s') → fg (.int i) s fun s1 => f1 ⟨fun s2 => k (wipeS s2 wp), rt, fun s2 => wipeK s2 wp nx, fun s2 => k (wipeS s2 wp), xx⟩ s1)
    (h0 : I lo s) : fLoop fg wp f1 ⟨nx, rt, bk, ct, xx⟩ (rangeD lo (hi - lo).toNat) s := by
  have go : ∀ (n : Nat) (i : Int) (s : S), lo ≤ i → (hi - i).toNat = n → (i ≤ hi ∨ i = lo) → I i s → fLoop fg wp f1 ⟨nx, rt, bk, ct, xx⟩ (rangeD i n) s := by
    intro n
    induction n with
    | zero =>
      intro i s h1 h2 h3 h4
      refine hend s ?_
      rw [show max lo hi = i by omega]
      exact h4
    | succ n ih =>
      intro i s h1 h2 h3 h4
      rw [rangeD_cons]
      exact hstep i s (fLoop fg wp f1 ⟨nx, rt, bk, ct, xx⟩ (rangeD (i + 1) n)) h1 (by omega) h4 fun s' h' => ih (i + 1) s' (by omega) (by omega) (.inl (by omega)) h'
  exact go _ lo s (Int.le_refl _) rfl (.inr rfl) h0
theorem loop_range1 {fg : FG} {wp : List Nat} (I : Int → S → Prop) {hi : Int} (hend : ∀ s, I (max 0 hi) s → nx s)
    (hstep : ∀ i s (k : S → Prop), 0 ≤ i → i < hi → I i s → (∀ s', I (i + 1) s' → k s') → fg (.int i) s fun s1 => f1 ⟨fun s2 => k (wipeS s2 wp), rt, fun s2 => wipeK s2 wp nx, fun s2 => k (wipeS s2 wp), xx⟩ s1)
    (h0 : I 0 s) : fLoop fg wp f1 ⟨nx, rt, bk, ct, xx⟩ (rangeD 0 hi.toNat) s := by
  have q := loop_range (lo := 0) (hi := hi) (bk := bk) (ct := ct) I hend hstep h0
  rw [Int.sub_zero] at q
  exact q
theorem loop_while {wp : List Nat} (I : Nat → S → Prop) (hstep : ∀ n s (k : S → Prop), I n s → (∀ m s', m < n → I m s' → k s') → t xx s fun c s1 => if c = true then f1 ⟨fun s2 => k (wipeS s2 wp), rt, fun s2 => wipeK s2 wp nx, fun s2 => k (wipeS s2 wp), xx⟩ s1 else nx s1)
    (n : Nat) (h0 : I n (wipeS s wp)) : fWhile wp t f1 ⟨nx, rt, bk, ct, xx⟩ s := by
  refine ⟨n + 1, ?_⟩
  generalize wipeS s wp = s0 at h0
  have go : ∀ N m s', m < N → I m s' → fWhileN wp t f1 ⟨nx, rt, bk, ct, xx⟩ N s' := by
    intro N
    induction N with
    | zero => intro m s' h; omega
    | succ N ih => exact fun m s' hm hI => hstep m s' (fWhileN wp t f1 ⟨nx, rt, bk, ct, xx⟩ N) hI fun m' s'' hm' hI' => ih m' s'' (by omega) hI'
  exact go (n + 1) n s0 (by omega) h0
/-- a comprehension that gives f x of each x of which there is one -/
theorem comp_map {fg : FG} {wp : List Nat} (f : D → Option D)
    : ∀ (xs acc : List D), (∀ x, x ∈ xs → ∀ (kT : D → S → Prop) (kF : S → Prop), (∀ d, f x = some d → kT d s) → (f x = none → kF s) → fg x s fun s1 => t X s1 fun b s2 => if b = true then e X s2 fun r s3 => frz r s3 fun d s4 => kT d (wipeS s4 wp) else kF (wipeS s2 wp)) →
      Q (.own (.l (acc ++ xs.filterMap f))) s → fComp X fg wp t e Q xs acc s
  | [], acc, _, h => by
    have h : Q (.own (.l (acc ++ []))) s := h
    rw [List.append_nil] at h
    exact h
  | x :: xs, acc, hs, h => by
    refine hs x List.mem_cons_self (fun d s4 => fComp X fg wp t e Q xs (acc ++ [d]) s4) (fun s2 => fComp X fg wp t e Q xs acc s2) (fun d hd => ?_) (fun hd => ?_)
    · exact comp_map f xs _ (fun x hx => hs x (List.mem_cons_of_mem _ hx)) (by simpa [List.filterMap_cons, hd] using h)
    · exact comp_map f xs _ (fun x hx => hs x (List.mem_cons_of_mem _ hx)) (by simpa [List.filterMap_cons, hd] using h)
/-- without a test -/
theorem comp_all {fg : FG} {wp : List Nat} (f : D → D)
    : ∀ (xs acc : List D), (∀ x, x ∈ xs → ∀ (kT : D → S → Prop), kT (f x) s → fg x s fun s1 => e X s1 fun r s3 => frz r s3 fun d s4 => kT d (wipeS s4 wp)) →
      Q (.own (.l (acc ++ xs.map f))) s → fComp X fg wp fYes e Q xs acc s
  | [], acc, _, h => by
    have h : Q (.own (.l (acc ++ []))) s := h
    rw [List.append_nil] at h
    exact h
  | x :: xs, acc, hs, h => by
    exact hs x List.mem_cons_self (fun d s4 => fComp X fg wp fYes e Q xs (acc ++ [d]) s4) (comp_all f xs _ (fun x hx => hs x (List.mem_cons_of_mem _ hx)) (by simpa using h))
end
end Hs
/-! HsN: for k in d, where the slot's dict is one that nobody changes; it is locked while the loop runs. -/
namespace Hs
open PySem PySem.Spec PyProof.Rows L2
/-- what is read stays readable -/
structure Lk (K : PySem.W.Frag) (Z Z' : Hp) : Prop where
  lst : ∀ a xs, Rd Z a (.lst xs) → Rd Z' a (.lst xs)
  dk : ∀ a ks, Rd Z a (.dK ks) → Rd Z' a (.dK ks)
  tup : ∀ a vs, Z a = some (.tup vs) → Z' a = some (.tup vs)
  dT : ∀ a ks, Z a = some (.dT ks) → Z' a = some (.dT ks)
  ext : ∀ a φ, Z a = some (.ext φ) → Z' a = some (.ext φ)
  ins : ∀ a C dx fs, Z a = some (.ins C dx fs) → Z' a = some (.ins C dx fs)
  ow : ∀ a x, Z a = some (.own x) → Z' a = some (.own x)
section
variable {K : PySem.W.Frag} {H H' : Hp}
theorem Lk.sq (e : Lk K H H') {a : Addr} {xs : List V} (h : SqL K H a xs) : SqL K H' a xs := by
  rcases h with h | h
  · exact .inl (e.lst _ _ h)
  · exact .inr h
mutual
theorem Rp.lkM (e : Lk K H H') : ∀ (d : PyData) (v : V), Rp K H v d → Rp K H' v d
  | .none, _, .non => .non
  | .bool _, _, .bl b => .bl b
  | .int _, _, .int i => .int i
  | .str _, _, .str x => .str x
  | .list ds, _, .lst h z a => .lst (e.lst _ _ h) z (RpAll.lkM e ds _ a)
  | .tuple ds, _, .tup h z a => .tup (e.tup _ _ h) z (RpAll.lkM e ds _ a)
  | .dict kvs, _, .dcK h a => .dcK (e.dk _ _ h) (RpK.lkM e kvs _ a)
  | .dict ((.none, .none) :: kvs), _, .dcT h a => .dcT (e.dT _ _ h) (RpT.lkM e kvs _ a)
  | _, _, .lit h z => .lit (e.sq h) z
  | _, _, .exc h => .exc (e.ext _ _ h)
  | .dict ((.none, .bool true) :: (.none, .str _) :: kvs), _, .obj h1 h2 a => .obj (e.ins _ _ _ _ h1) (e.ow _ _ h2) (RpK.lkM e kvs _ a)
theorem RpAll.lkM (e : Lk K H H') : ∀ (ds : List PyData) (vs : List V), RpAll K H vs ds → RpAll K H' vs ds
  | [], _, .nil => .nil
  | d :: ds, _, .cons h a => .cons (Rp.lkM e d _ h) (RpAll.lkM e ds _ a)
theorem RpK.lkM (e : Lk K H H') : ∀ (kvs : List (PyData × PyData)) (ks : List (Key × V)), RpK K H ks kvs → RpK K H' ks kvs
  | [], _, .nil => .nil
  | (_, d) :: kvs, _, .cons h a => .cons (Rp.lkM e d _ h) (RpK.lkM e kvs _ a)
theorem RpT.lkM (e : Lk K H H') : ∀ (kvs : List (PyData × PyData)) (ks : List (List Key × V)), RpT K H ks kvs → RpT K H' ks kvs
  | [], _, .nil => .nil
  | (_, d) :: kvs, _, .cons h a => .cons (Rp.lkM e d _ h) (RpT.lkM e kvs _ a)
end
end
section
variable {K : PySem.W.Frag} {Z Z' H H' : Hp}
theorem LL.lk (e : Lk K Z Z') : ∀ {qs : List Addr} {xss : List (List D)}, (∀ a ∈ qs, ∀ o, H a = some o → H' a = some o) → LL K Z H qs xss → LL K Z' H' qs xss
  | _, _, _, .nil => .nil
  | _, _, k, .cons h z a r => .cons (k _ List.mem_cons_self _ h) z (RpAll.lkM e _ _ a) (LL.lk e (fun b hb => k b (List.mem_cons_of_mem _ hb)) r)
theorem DcAt.lk {p : Addr} {kvs : List (D × D)} (e : Lk K Z Z') (kp : ∀ o, H p = some o → H' p = some o) (h : DcAt K Z H p kvs) : DcAt K Z' H' p kvs := by
  rcases h with ⟨ks, e1, r⟩ | ⟨ks, kvs', e0, e1, r⟩
  · exact .inl ⟨ks, kp _ e1, RpK.lkM e _ _ r⟩
  · exact .inr ⟨ks, kvs', e0, kp _ e1, RpT.lkM e _ _ r⟩
theorem PartAt.lk {v : V} {w : PV} {F : List Addr} (e : Lk K Z Z') (k : ∀ a ∈ F, ∀ o, H a = some o → H' a = some o) (h : PartAt K Z H v w F) : PartAt K Z' H' v w F := by
  cases w with
  | d x => exact ⟨h.1, Rp.lkM e _ _ h.2⟩
  | l xs =>
    obtain ⟨p, vs, h1, h2, h3, h4, h5⟩ := h
    exact ⟨p, vs, h1, h2, k p (by rw [h2]; exact List.mem_cons_self) _ h3, h4, RpAll.lkM e _ _ h5⟩
  | dc kvs =>
    obtain ⟨p, h1, h2, h3⟩ := h
    exact ⟨p, h1, h2, h3.lk e (k p (by rw [h2]; exact List.mem_cons_self))⟩
theorem TpAt.lk (e : Lk K Z Z') {vs : List V} {ws : List PV} {F : List Addr} (h : TpAt K Z H vs ws F) (k : ∀ a ∈ F, ∀ o, H a = some o → H' a = some o) : TpAt K Z' H' vs ws F := by
  induction h with
  | nil => exact .nil
  | cons h r ih => exact .cons (h.lk e fun a ha => k a (List.mem_append_left _ ha)) (ih fun a ha => k a (List.mem_append_right _ ha))
theorem SlotAt.lk {v : Option V} {sv : SV} {F : List Addr} (e : Lk K Z Z') (k : ∀ a ∈ F, ∀ o, H a = some o → H' a = some o) (h : SlotAt K Z H v sv F) : SlotAt K Z' H' v sv F := by
  cases sv with
  | no => exact h
  | d x =>
    obtain ⟨h1, u, h2, r⟩ := h
    exact ⟨h1, u, h2, Rp.lkM e _ _ r⟩
  | l xs =>
    obtain ⟨p, vs, h1, h2, h3, h4, h5⟩ := h
    exact ⟨p, vs, h1, h2, k p (by rw [h2]; exact List.mem_cons_self) _ h3, h4, RpAll.lkM e _ _ h5⟩
  | ll xss =>
    obtain ⟨p, qs, h1, h2, h3, h4, h5⟩ := h
    exact ⟨p, qs, h1, h2, k p (by rw [h2]; exact List.mem_cons_self) _ h3, h4, h5.lk e fun a ha => k a (by rw [h2]; exact List.mem_cons_of_mem _ ha)⟩
  | dc kvs =>
    obtain ⟨p, h1, h2, h3⟩ := h
    exact ⟨p, h1, h2, h3.lk e (k p (by rw [h2]; exact List.mem_cons_self))⟩
  | ob c fs =>
    obtain ⟨p, dx, vs, G, h1, h2, h3, h4, h5⟩ := h
    exact ⟨p, dx, vs, G, h1, h2, k p (by rw [h2]; simp) _ h3, k dx (by rw [h2]; simp) _ h4, h5.lk e fun a ha => k a (by rw [h2]; simp [ha])⟩
  | tp ws =>
    obtain ⟨p, vs, h1, h3, h4, h5⟩ := h
    exact ⟨p, vs, h1, e.tup _ _ h3, h4, h5.lk e k⟩
/-- the thing at d stands otherwise, nothing else does -/
theorem Rel.lk {Y Z1 H1 : Hp} {σ : St} {s : S} {d : Addr} (r : Rel K Z Y H σ s) (e : Lk K Z Z1) (hd : Z d ≠ none) (hz : ∀ a, a ≠ d → Z1 a = Z a) (hh : ∀ a, a ≠ d → H1 a = H a) (hzd : Z1 d = H1 d) : Rel K Z1 Y H1 σ s := by
  obtain ⟨F, o⟩ := r.own
  have yd : Y d = none := r.zy d hd
  have fd : ∀ i, ∀ a ∈ F i, a ≠ d := fun i a ha q => hd (by rw [← q]; exact (o.fr i a ha).1)
  refine ⟨fun a q e1 => ?_, fun a q e1 => ?_, fun a ha => ?_, r.yt, r.len, F, fun i => (o.at_ i).lk e fun a ha ob e1 => by rw [hh a (fd i a ha)]; exact e1, o.nd, o.dj, fun i a ha => ⟨by rw [hz a (fd i a ha)]; exact (o.fr i a ha).1, (o.fr i a ha).2⟩⟩
  · by_cases h : a = d
    · subst h; rw [← hzd]; exact e1
    · rw [hz a h] at e1
      rw [hh a h]
      exact r.zh a q e1
  · have h : a ≠ d := fun h => by rw [h, yd] at e1; cases e1
    rw [hh a h]
    exact r.yh a q e1
  · by_cases h : a = d
    · rw [h]; exact yd
    · rw [hz a h] at ha
      exact r.zy a ha
theorem lk_lock {d : Addr} {o : Obj} {ks : List (Key × V)} (h : Z d = some (.dK ks)) : Lk K Z (upd Z d (.frz o (.dK ks))) where
  lst := fun a xs hu => by
    have e : a ≠ d := fun e => by
      subst e
      rcases hu with hu | ⟨o', hu⟩ <;> (rw [h] at hu; cases hu)
    rcases hu with hu | ⟨o', hu⟩
    · exact .inl (by rw [upd_ne e]; exact hu)
    · exact .inr ⟨o', by rw [upd_ne e]; exact hu⟩
  dk := fun a u hu => by
    by_cases e : a = d
    · subst e
      rcases hu with hu | ⟨o', hu⟩
      · rw [h] at hu
        cases hu
        exact .inr ⟨o, upd_same⟩
      · rw [h] at hu
        cases hu
    · rcases hu with hu | ⟨o', hu⟩
      · exact .inl (by rw [upd_ne e]; exact hu)
      · exact .inr ⟨o', by rw [upd_ne e]; exact hu⟩
  tup := fun a vs hu => by rw [upd_ne (fun e => by rw [e, h] at hu; cases hu)]; exact hu
  dT := fun a ks' hu => by rw [upd_ne (fun e => by rw [e, h] at hu; cases hu)]; exact hu
  ext := fun a φ hu => by rw [upd_ne (fun e => by rw [e, h] at hu; cases hu)]; exact hu
  ins := fun a C dx fs hu => by rw [upd_ne (fun e => by rw [e, h] at hu; cases hu)]; exact hu
  ow := fun a x hu => by rw [upd_ne (fun e => by rw [e, h] at hu; cases hu)]; exact hu
theorem lk_unlock {d : Addr} {o : Obj} {ks : List (Key × V)} (h : Z d = some (.frz o (.dK ks))) : Lk K Z (upd Z d (.dK ks)) where
  lst := fun a xs hu => by
    have e : a ≠ d := fun e => by
      subst e
      rcases hu with hu | ⟨o', hu⟩ <;> (rw [h] at hu; cases hu)
    rcases hu with hu | ⟨o', hu⟩
    · exact .inl (by rw [upd_ne e]; exact hu)
    · exact .inr ⟨o', by rw [upd_ne e]; exact hu⟩
  dk := fun a u hu => by
    by_cases e : a = d
    · subst e
      rcases hu with hu | ⟨o', hu⟩
      · rw [h] at hu
        cases hu
      · rw [h] at hu
        cases hu
        exact .inl upd_same
    · rcases hu with hu | ⟨o', hu⟩
      · exact .inl (by rw [upd_ne e]; exact hu)
      · exact .inr ⟨o', by rw [upd_ne e]; exact hu⟩
  tup := fun a vs hu => by rw [upd_ne (fun e => by rw [e, h] at hu; cases hu)]; exact hu
  dT := fun a ks' hu => by rw [upd_ne (fun e => by rw [e, h] at hu; cases hu)]; exact hu
  ext := fun a φ hu => by rw [upd_ne (fun e => by rw [e, h] at hu; cases hu)]; exact hu
  ins := fun a C dx fs hu => by rw [upd_ne (fun e => by rw [e, h] at hu; cases hu)]; exact hu
  ow := fun a x hu => by rw [upd_ne (fun e => by rw [e, h] at hu; cases hu)]; exact hu
/-! ### the keys walked -/
theorem RpK.at {Z : Hp} : ∀ {ks : List (Key × V)} {kvs : List (D × D)} {i : Nat} {k : Key} {v : V}, RpK K Z ks kvs → ks[i]? = some (k, v) → (kvs.map (·.1))[i]? = some (keyD k)
  | _, _, i, k, v, .nil, e => by simp at e
  | _, _, 0, k, v, .cons h r, e => by
    cases e
    rfl
  | _, _, i + 1, k, v, .cons h r, e => RpK.at (i := i) r e
theorem rp_key (k : Key) : Rp K Z (kV k) (keyD k) := by
  cases k with
  | inl i => exact .int i
  | inr x => exact .str x
theorem walks_keys {d : Addr} {o : Obj} {ks : List (Key × V)} {kvs : List (D × D)} (h : Z d = some (.frz o (.dK ks))) (r : RpK K Z ks kvs) : Walks K Z (Itk d o ks) (kvs.map (·.1)) where
  stop := fun i H e hi => ⟨e _ _ h, by rw [r.length]; rw [List.length_map] at hi; exact hi⟩
  go := fun i H e hi => ⟨e _ _ h, by rw [r.length]; rw [List.length_map] at hi; exact hi⟩
  yld := fun i H v H' Zc e1 e2 hi ⟨eh, k, w, hk, hv⟩ => by
    subst eh hv
    exact ⟨keyD k, Zc, r.at hk, .d e2 (rp_key k)⟩
end
/-- for k in the slot's dict -/
def fForD (i : Nat) (fg : FG) (wp : List Nat) (b : FS) : FS := fun E s => match asD (s.getD i .no) with
  | some (.dict kvs) => match kvs with
    | (.none, _) :: _ => False
    | kvs => fLoop fg wp b { E with xx := fun _ _ => False } (kvs.map (·.1)) (wipeS (s.set i (.d (.dict kvs))) wp)
  | _ => False
section
variable {X : Cx} {L : Lv} {fg : FG} {wp ws : List Nat} {f1 : FS} {pos px : Pos} {x : Str} {body : List Stmt} {tg : Expr}
theorem loop_core {J : It} {Z Y H : Hp} {σ : St} {s1 : S} {xs : List D} {Ef : FEnds} {D0 : Ends} (rl : Rel X.K Z Y H σ s1) (k : L.keeps σ) (eo : EndsOk X L Z Y Ef D0) (wk : Walks X.K Z J xs) (hloop : fLoop fg wp f1 Ef xs (wipeS s1 wp)) :
    ∃ W : Nat → Nat → St → Hp → Prop, (∃ m, W 0 m σ H) ∧ ∀ i m σ H, W i m σ H →
      (J.stop i H ∧ D0.nx σ H) ∨ (J.go i H ∧ ∃ N : St → Hp → Prop, (∀ σ' H', N σ' H' → ∃ m', m' < m ∧ W (i + 1) m' σ' H') ∧ ∀ x H', J.yld i H x H' → liftG X L ws fg x σ H' fun σ2 H2 => liftS X L f1 { D0 with nx := N, ct := N, bk := D0.nx } σ2 H2) := by
  refine ⟨fun i m σ' H' => ∃ Z' s', Same Z Z' ∧ Rel X.K Z' Y H' σ' s' ∧ L.keeps σ' ∧ m = xs.length - i ∧ i ≤ xs.length ∧ fLoop fg wp f1 Ef (xs.drop i) s', ⟨xs.length, Z, _, Same.refl _, rl.wipeS wp, k, rfl, Nat.zero_le _, hloop⟩, ?_⟩
  rintro i m σ' H' ⟨Z', s', hz', r', k', rfl, hle, hl⟩
  by_cases hlt : i < xs.length
  · refine .inr ⟨wk.go i H' (hz'.trans r'.zh) hlt, fun σ2 H2 => ∃ Z2 s2, Same Z' Z2 ∧ Rel X.K Z2 Y H2 σ2 s2 ∧ L.keeps σ2 ∧ fLoop fg wp f1 Ef (xs.drop (i + 1)) (wipeS s2 wp), fun σ2 H2 ⟨Z2, s2, hz2, r2, k2, h2⟩ => ⟨xs.length - (i + 1), by omega, Z2, _, hz'.trans hz2, r2.wipeS wp, k2, rfl, hlt, h2⟩, fun x H2 hy => ?_⟩
    obtain ⟨d, Z2, hd, n⟩ := wk.yld i H' x H2 Z' hz' r'.zh hlt hy
    have ed : xs.drop i = d :: xs.drop (i + 1) := by
      obtain ⟨h1, h2⟩ := List.getElem?_eq_some_iff.mp hd
      rw [List.drop_eq_getElem_cons hlt, h2]
    rw [ed] at hl
    have r2 : Rel X.K Z2 Y H2 σ' s' := r'.grow n.hh n.hz n.zh n.old
    refine ⟨Z2, Y, s', d, _, r2, k', n.val, hl, fun σ3 s3 k3 _ r3 h3 => ?_⟩
    refine ⟨Z2, Y, s3, _, r3, k3, h3, ⟨fun σ4 H4 Z4 s4 hz4 k4 r4 h4 => ⟨Z4, s4, n.hz.trans hz4, r4, k4, h4⟩, fun v σ4 H4 Z4 r0 s4 hz4 k4 rx4 h4 => eo.rt v σ4 H4 Z4 r0 s4 ((hz'.trans n.hz).trans hz4) k4 rx4 h4,
      fun σ4 H4 Z4 s4 hz4 k4 r4 h4 => eo.nx σ4 H4 Z4 _ ((hz'.trans n.hz).trans hz4) k4 (r4.wipeS wp) h4, fun σ4 H4 Z4 s4 hz4 k4 r4 h4 => ⟨Z4, s4, n.hz.trans hz4, r4, k4, h4⟩, eo.xx.z (hz'.trans n.hz)⟩⟩
  · have ei : i = xs.length := by omega
    subst ei
    rw [List.drop_length] at hl
    exact .inl ⟨wk.stop _ H' (hz'.trans r'.zh) (Nat.le_refl _), eo.nx σ' H' Z' s' hz' k' r' hl⟩
theorem PS_or {st : Stmt} {t u : TS} (h1 : PS X st t) (h2 : PS X st u) : PS X st (fun D σ H => t D σ H ∨ u D σ H) := ⟨fun pins s σ H D I h => h.elim (h1.run pins s σ H D I) (h2.run pins s σ H D I)⟩
theorem pfs_forD (i : Nat) (hp : PassesOwn (model X.prog X.w) X.A X.env X.xe) (hc : X.calm = true) (hv : PE X (.Name x px) (tVar i)) (hg : PFG X L ws tg fg) (hb : PFSs X L body f1)
    (hs : ∀ y, foldedSetIterable (.Name x px) X.env y = pure y := by intro _; rfl) : PFS X L (.For tg (.Name x px) body [] pos) (fForD i fg wp f1) :=
  have base := ps_for (pos := pos) hp hc (pi_keys (tg := tg) hv) hg hb hs
  PS_imp (PS_or base (ps_lock base)) fun D0 σ H ⟨Z0, Y, s0, Ef, r0, k, h, eo0⟩ => by
  unfold fForD at h
  split at h
  · rename_i kvs0 es0
    split at h
    · exact h.elim
    · rename_i kvs hn
      obtain ⟨Z, hz0, r⟩ := r0.freeze es0
      have hi0 : i < s0.length := by
        by_cases hi : i < s0.length
        · exact hi
        · rw [getD_out (by omega)] at es0; cases es0
      have es : (s0.set i (.d (.dict kvs0))).getD i .no = .d (.dict kvs0) := getD_set_self hi0
      have eo : EndsOk X L Z Y Ef D0 := ⟨fun σ' H' Z2 s' h2 => eo0.nx σ' H' Z2 s' (hz0.trans h2), fun v σ' H' Z2 q s' h2 => eo0.rt v σ' H' Z2 q s' (hz0.trans h2), fun σ' H' Z2 s' h2 => eo0.bk σ' H' Z2 s' (hz0.trans h2), fun σ' H' Z2 s' h2 => eo0.ct σ' H' Z2 s' (hz0.trans h2), eo0.xx.z hz0⟩
      generalize s0.set i (.d (.dict kvs0)) = s at r es h
      obtain ⟨F, sl⟩ := r.slot i
      rw [es] at sl
      obtain ⟨_, u, hu, rp⟩ := sl
      have hu2 : σ[i]? = some (some u) := getD_some hu
      generalize e0 : (PyData.dict kvs0) = dd at rp
      cases rp with
      | dcK hr a =>
        cases e0
        rename_i d ks
        rcases hr with hr | ⟨o, hr⟩
        · -- it is locked for the loop
          refine .inr ⟨d, .dK ks, r.zh _ _ hr, True.intro, fun od => ?_⟩
          have lk := lk_lock (K := X.K) (o := od) hr
          have hzd : upd Z d (.frz od (.dK ks)) d = upd H d (.frz od (.dK ks)) d := by rw [upd_same, upd_same]
          have r1 : Rel X.K (upd Z d (.frz od (.dK ks))) Y (upd H d (.frz od (.dK ks))) σ s := r.lk lk (by rw [hr]; exact fun z => nomatch z) (fun a ha => upd_ne ha) (fun a ha => upd_ne ha) hzd
          have wk := walks_keys (K := X.K) (Z := upd Z d (.frz od (.dK ks))) (d := d) (o := od) upd_same (RpK.lkM lk _ _ a)
          -- what comes behind, unlocked
          have back : ∀ σ' H' Z' s', Same (upd Z d (.frz od (.dK ks))) Z' → Rel X.K Z' Y H' σ' s' → H' d = some (.frz od (.dK ks)) ∧ Same Z (upd Z' d (.dK ks)) ∧ Rel X.K (upd Z' d (.dK ks)) Y (upd H' d (.dK ks)) σ' s' := fun σ' H' Z' s' hz rl => by
            have zd : Z' d = some (.frz od (.dK ks)) := hz _ _ upd_same
            refine ⟨rl.zh _ _ zd, fun b q e => ?_, rl.lk (lk_unlock zd) (by rw [zd]; exact fun z => nomatch z) (fun a ha => upd_ne ha) (fun a ha => upd_ne ha) (by rw [upd_same, upd_same])⟩
            by_cases hb : b = d
            · subst hb; rw [upd_same, ← hr]; exact e
            · rw [upd_ne hb]
              exact hz _ _ (by rw [upd_ne hb]; exact e)
          refine ⟨.ref d, ?_, d, od, rfl, .inl ⟨ks, upd_same, ?_⟩⟩
          · exact hu2
          · exact loop_core r1 k (Ef := { Ef with xx := fun _ _ => False }) ⟨fun σ' H' Z' s' hz k' rl hq => let ⟨e1, s2, r2⟩ := back σ' H' Z' s' hz rl; ⟨e1, eo.nx σ' _ _ s' s2 k' r2 hq⟩,
              fun v σ' H' Z' q s' hz k' rx hq => let ⟨e1, s2, r2⟩ := back _ H' Z' _ hz rx.rel; ⟨e1, eo.rt v σ' _ _ q s' s2 k' ⟨r2, rx.l1, rx.l2, rx.top⟩ hq⟩,
              fun σ' H' Z' s' hz k' rl hq => let ⟨e1, s2, r2⟩ := back σ' H' Z' s' hz rl; ⟨e1, eo.bk σ' _ _ s' s2 k' r2 hq⟩,
              fun σ' H' Z' s' hz k' rl hq => let ⟨e1, s2, r2⟩ := back σ' H' Z' s' hz rl; ⟨e1, eo.ct σ' _ _ s' s2 k' r2 hq⟩, fun _ _ _ _ _ _ _ _ _ z _ => z.elim⟩ wk h
        · refine .inl ⟨.ref d, hu2, d, o, rfl, .inl ⟨ks, r.zh _ _ hr, ?_⟩⟩
          refine loop_core r k (Ef := { Ef with xx := fun _ _ => False }) (D0 := D0) ⟨eo.nx, eo.rt, eo.bk, eo.ct, fun _ _ _ _ _ _ _ _ _ z _ => z.elim⟩ (walks_keys hr a) h
      | dcT hr a => cases e0; exact absurd rfl (hn _ _)
      | lit hr z => cases e0; exact absurd rfl (hn _ _)
      | exc hr => cases e0; exact absurd rfl (hn _ _)
      | obj hr _ _ => cases e0; exact absurd rfl (hn _ _)
      | _ => cases e0
  · exact h.elim
end
/-! ### len of dicts -/
def bLen2 : VN := fun ds Q => bLen ds Q ∨ ∃ kvs, ds = [.dict kvs] ∧ match kvs with
  | (.none, .none) :: r => Q (.d (.int (r.length : Nat)))
  | (.none, _) :: _ => False
  | kvs => Q (.d (.int (kvs.length : Nat)))
theorem fb_len2 {X : Cx} : CallR X (.builtin "len") (rFN X.K bLen2) := by
  intro pins s σ H vs us Q I rv ⟨Z, ds, Qf, hz, rr, g, q⟩
  rcases g with g | ⟨kvs, rfl, g⟩
  · exact fb_len pins s σ H vs us Q I rv ⟨Z, ds, Qf, hz, rr, g, q⟩
  · obtain ⟨v, rfl, r1⟩ := rr.one
    obtain ⟨u, rfl, ru⟩ := vals1 rv
    rcases r1.dict hz with ⟨p, ks, rfl, hp, r⟩ | ⟨p, ks, kvs', rfl, rfl, hp, r⟩ | ⟨x0, r, rfl, hxn⟩
    · split at g
      · exact r.mark.elim
      · exact r.mark.elim
      · cases ru
        exact d_len I hp fun t s' I' => ⟨.int ks.length, H, I', ⟨t, rfl⟩, by rw [r.length]; exact q _ H Z _ (.d hz (.int _)) g⟩
    · exact call_len_dT pins s σ H _ _ Q I rv ⟨p, ks, rfl, hp, by rw [r.length]; exact q _ H Z _ (.d hz (.int _)) g⟩
    · split at g
      · rename_i e1
        cases e1
        exact (hxn rfl).elim
      · exact g.elim
      · rename_i h1 h2
        exact (h2 _ _ rfl).elim
/-! ### steps -/
theorem st_forD {i : Nat} {fg : FG} {wp : List Nat} {b : FS} {nx bk ct : S → Prop} {rt : R → S → Prop} {xx : XF} {s s' : S} {ps : List (Int × D)} [e : Get s i (.dc (ps.map fun p => (.int p.1, p.2)))] [q : Put s i (.d (.dict (ps.map fun p => (.int p.1, p.2)))) s']
    (h : wipeK s' wp fun s2 => fLoop fg wp b ⟨nx, rt, bk, ct, fun _ _ => False⟩ (ps.map fun p => .int p.1) s2) : fForD i fg wp b ⟨nx, rt, bk, ct, xx⟩ s := by
  unfold fForD
  rw [e.e]
  show (match (some (PyData.dict (ps.map fun p => (PyData.int p.1, p.2))) : Option D) with
    | some (.dict kvs) => match kvs with
      | (.none, _) :: _ => False
      | kvs => fLoop fg wp b _ (kvs.map (·.1)) (wipeS (s.set i (.d (.dict kvs))) wp)
    | _ => False)
  dsimp only
  split
  · rename_i heq
    cases ps with
    | nil => cases heq
    | cons p r => cases heq
  · rw [q.e, List.map_map]
    exact h
theorem st_len2_l {xs : List D} {k : R → Prop} (h : k (.d (.int (xs.length : Nat)))) : bLen2 [.list xs] k := .inl h
theorem st_len2_t {xs : List D} {k : R → Prop} (h : k (.d (.int (xs.length : Nat)))) : bLen2 [.tuple xs] k := .inl h
theorem st_len2_lit {ns : List Int} {k : R → Prop} (h : k (.d (.int (ns.length : Nat)))) : bLen2 [litD ns] k := .inl (by
  show k (.d (.int ((ns.map PyData.int).length : Nat)))
  rw [List.length_map]; exact h)
theorem st_len2_d {ps : List (Int × D)} {k : R → Prop} (h : k (.d (.int (ps.length : Nat)))) : bLen2 [.dict (ps.map fun p => (.int p.1, p.2))] k := .inr ⟨_, rfl, by
  cases ps with
  | nil => exact h
  | cons p r =>
    show k (.d (.int (((p :: r).map fun p => (PyData.int p.1, p.2)).length : Nat)))
    rw [List.length_map]; exact h⟩
theorem st_len2_T {kvs : List (D × D)} {k : R → Prop} (h : k (.d (.int (kvs.length : Nat)))) : bLen2 [.dict ((.none, .none) :: kvs)] k := .inr ⟨_, rfl, h⟩
end Hs
/-! HsW: webs as values; cups of draws. -/
namespace Hs
open PySem
/-! ### more steps -/
section
variable {X : XF} {s : S} {Q : R → S → Prop} {fa fb : FE} {n m : Int} {k : R → Prop} {xs ys : List D} {x y : D}
theorem st_rg1 {mk : List D → R} (h : fa X s fun r s1 => match r with | .d (.int j) => L2.RgOk 0 j ∧ Q (mk (rangeD 0 j.toNat)) s1 | _ => False) : fRg1 mk fa X s Q := h
theorem st_rg2 {mk : List D → R} (h : fa X s fun r1 s1 => fb X s1 fun r2 s2 => match r1, r2 with | .d (.int i), .d (.int j) => L2.RgOk i j ∧ Q (mk (rangeD i (j - i).toNat)) s2 | _, _ => False) : fRg2 mk fa fb X s Q := h
theorem st_enumL {fr : FA} {kl : List D → S → Prop} (h : fr X s fun rs s1 => frzAll rs s1 fun ds s2 => match ds with
  | [.list xs] => kl (enumD xs) s2
  | [.tuple xs] => kl (enumD xs) s2
  | _ => False) : iEnumL fr X s kl := h
theorem st_zipS {fr : FA} {kl : List D → S → Prop} (h : fr X s fun rs s1 => frzAll rs s1 fun ds s4 => match ds with
  | [.list xs, .list ys] => kl (zipD xs ys) s4
  | [.tuple xs, .tuple ys] => kl (zipD xs ys) s4
  | _ => False) : iZipS fr X s kl := h
theorem st_rev_l (h : k (.own (.l xs.reverse))) : revD (.list xs) k := h
theorem st_rev_t (h : k (.d (.tuple xs.reverse))) : revD (.tuple xs) k := h
theorem st_in_t (z1 : SeqAt.shaped x = true) (z2 : SeqAt.shaped (.tuple xs) = true) (h : k (.d (.bool (xs.any fun z => PyData.eqv z x)))) : cIn x (.tuple xs) k := ⟨z1, z2, h⟩
theorem st_in_l (z1 : SeqAt.shaped x = true) (z2 : SeqAt.shaped (.list xs) = true) (h : k (.d (.bool (xs.any fun z => PyData.eqv z x)))) : cIn x (.list xs) k := ⟨z1, z2, h⟩
theorem st_notIn_t (z1 : SeqAt.shaped x = true) (z2 : SeqAt.shaped (.tuple xs) = true) (h : k (.d (.bool (!xs.any fun z => PyData.eqv z x)))) : cNotIn x (.tuple xs) k := ⟨z1, z2, h⟩
theorem st_notIn_l (z1 : SeqAt.shaped x = true) (z2 : SeqAt.shaped (.list xs) = true) (h : k (.d (.bool (!xs.any fun z => PyData.eqv z x)))) : cNotIn x (.list xs) k := ⟨z1, z2, h⟩
theorem st_lt_t {ns ms : List Int} (e1 : intsOf xs = some ns) (e2 : intsOf ys = some ms) (h : k (.d (.bool (HT.lexLt ns ms)))) : cLt (.tuple xs) (.tuple ys) k := by
  show (match intsOf xs, intsOf ys with | some ns, some ms => k (.d (.bool (HT.lexLt ns ms))) | _, _ => False)
  rw [e1, e2]; exact h
theorem st_sort_i {ns : List Int} (e : xs = ns.map PyData.int) (h : ∀ ms : List Int, ms.Perm ns → ms.Pairwise (· ≤ ·) → k (.own (.l (ms.map .int)))) : bSorted [.list xs] k := by
  subst e
  show (match intsOf (ns.map PyData.int) with | some _ => bSortI [.list (ns.map PyData.int)] k | none => _)
  rw [intsOf_map']
  show (match intsOf (ns.map PyData.int) with | some ns => ∀ ms : List Int, ms.Perm ns → ms.Pairwise (· ≤ ·) → k (.own (.l (ms.map .int))) | none => False)
  rw [intsOf_map']
  exact h
theorem pairsOf_map' : ∀ ps : List (Int × Int), pairsOf (ps.map pairD) = some ps
  | [] => rfl
  | p :: ps => by
    show (match pairOf (pairD p), pairsOf (ps.map pairD) with | some p, some ps => some (p :: ps) | _, _ => none) = _
    rw [pairsOf_map' ps]; rfl
theorem st_sort_p {ps : List (Int × Int)} (e : xs = ps.map pairD) (h : ∀ qs : List (Int × Int), qs.Perm ps → qs.Pairwise (fun p q => ltPr q p = false) → k (.own (.l (qs.map pairD)))) : bSorted [.list xs] k := by
  subst e
  cases ps with
  | nil => exact fun ms hp hs => by rw [hp.eq_nil]; exact h [] (List.Perm.refl _) .nil
  | cons p ps =>
    show (match pairsOf ((p :: ps).map pairD) with | some _ => bSortP [.list ((p :: ps).map pairD)] k | none => bSortT [.list ((p :: ps).map pairD)] k)
    rw [pairsOf_map']
    show (match pairsOf ((p :: ps).map pairD) with | some ps => ∀ qs : List (Int × Int), qs.Perm ps → qs.Pairwise (fun p q => ltPr q p = false) → k (.own (.l (qs.map pairD))) | none => False)
    rw [pairsOf_map']
    exact h
end

/-- all of truths -/
theorem st_all_true {k : R → Prop} {xs : List D} (h : k (.d (.bool true))) : bAll [.list (xs.map fun _ => .bool true)] k := by
  refine st_all (bs := xs.map fun _ => true) (by simp) ?_
  rw [show (xs.map fun _ => true).all id = true by simp]
  exact h
/-- a comprehension all of whose items are true -/
theorem comp_true {X : XF} {fg : FG} {wp : List Nat} {e : FE} {Q : R → S → Prop} {s : S} {xs : List D} (hs : ∀ x, x ∈ xs → ∀ (kT : D → S → Prop), kT (.bool true) s → fg x s fun s1 => e X s1 fun r s3 => frz r s3 fun d s4 => kT d (wipeS s4 wp)) (h : Q (.own (.l (xs.map fun _ => .bool true))) s) :
    fComp X fg wp fYes e Q xs [] s := comp_all (fun _ => .bool true) xs [] hs (by simpa using h)
/-- a comprehension that changes the state -/
theorem comp_inv {X : XF} {fg : FG} {wp : List Nat} {t : FT} {e : FE} {Q : R → S → Prop} (I : List D → List D → S → Prop) (hend : ∀ acc s, I [] acc s → Q (.own (.l acc)) s)
    (hstep : ∀ x xs acc s (kT : D → S → Prop) (kF : S → Prop), I (x :: xs) acc s → (∀ d s', I xs (acc ++ [d]) s' → kT d s') → (∀ s', I xs acc s' → kF s') → fg x s fun s1 => t X s1 fun b s2 => if b = true then e X s2 fun r s3 => frz r s3 fun d s4 => kT d (wipeS s4 wp) else kF (wipeS s2 wp)) :
    ∀ xs acc s, I xs acc s → fComp X fg wp t e Q xs acc s
  | [], acc, s, h => hend acc s h
  | x :: xs, acc, s, h => hstep x xs acc s (fun d s4 => fComp X fg wp t e Q xs (acc ++ [d]) s4) (fun s4 => fComp X fg wp t e Q xs acc s4) h (fun d s' h' => comp_inv I hend hstep xs _ s' h') fun s' h' => comp_inv I hend hstep xs _ s' h'
/-- a tuple of whole numbers -/
def IntT (m : Nat) (d : D) : Prop := ∃ ks : List Int, d = .tuple (ks.map .int) ∧ ks.length ≤ m
theorem IntT.cut {m : Nat} {ks : List Int} {lo hi : Option Int} (h : ks.length ≤ m) : ∃ ls : List Int, slD.cutL (ks.map PyData.int) lo hi = ls.map PyData.int ∧ ls.length ≤ m := by
  unfold slD.cutL
  rw [List.length_map, ← List.map_drop, ← List.map_take]
  exact ⟨_, rfl, by rw [List.length_take, List.length_drop]; omega⟩
theorem comp_list {α : Type} {X : XF} {fg : FG} {wp : List Nat} {e : FE} {Q : R → S → Prop} {s : S} (g f : α → D) (l : List α) (hs : ∀ a, a ∈ l → ∀ (kT : D → S → Prop), kT (f a) s → fg (g a) s fun s1 => e X s1 fun r s3 => frz r s3 fun d s4 => kT d (wipeS s4 wp)) (h : Q (.own (.l (l.map f))) s) :
    fComp X fg wp fYes e Q (l.map g) [] s := by
  have go : ∀ (l : List α) (acc : List D), (∀ a, a ∈ l → ∀ (kT : D → S → Prop), kT (f a) s → fg (g a) s fun s1 => e X s1 fun r s3 => frz r s3 fun d s4 => kT d (wipeS s4 wp)) → Q (.own (.l (acc ++ l.map f))) s → fComp X fg wp fYes e Q (l.map g) acc s := by
    intro l
    induction l with
    | nil =>
      intro acc _ h
      have h : Q (.own (.l (acc ++ []))) s := h
      rw [List.append_nil] at h
      exact h
    | cons a l ih =>
      intro acc hs h
      exact hs a List.mem_cons_self (fun d s4 => fComp X fg wp fYes e Q (l.map g) (acc ++ [d]) s4) (ih _ (fun b hb => hs b (List.mem_cons_of_mem _ hb)) (by simpa using h))
  exact go l [] hs (by simpa using h)
theorem comp_filter {α : Type} {X : XF} {fg : FG} {wp : List Nat} {t : FT} {e : FE} {Q : R → S → Prop} {s : S} (g f : α → D) (p : α → Bool) (l : List α)
    (hs : ∀ a, a ∈ l → ∀ (kT : D → S → Prop) (kF : S → Prop), (p a = true → kT (f a) s) → (p a = false → kF s) → fg (g a) s fun s1 => t X s1 fun b s2 => if b = true then e X s2 fun r s3 => frz r s3 fun d s4 => kT d (wipeS s4 wp) else kF (wipeS s2 wp)) (h : Q (.own (.l ((l.filter p).map f))) s) :
    fComp X fg wp t e Q (l.map g) [] s := by
  have go : ∀ (l : List α) (acc : List D), (∀ a, a ∈ l → ∀ (kT : D → S → Prop) (kF : S → Prop), (p a = true → kT (f a) s) → (p a = false → kF s) → fg (g a) s fun s1 => t X s1 fun b s2 => if b = true then e X s2 fun r s3 => frz r s3 fun d s4 => kT d (wipeS s4 wp) else kF (wipeS s2 wp)) →
      Q (.own (.l (acc ++ (l.filter p).map f))) s → fComp X fg wp t e Q (l.map g) acc s := by
    intro l
    induction l with
    | nil =>
      intro acc _ h
      have h : Q (.own (.l (acc ++ []))) s := h
      rw [List.append_nil] at h
      exact h
    | cons a l ih =>
      intro acc hs h
      refine hs a List.mem_cons_self (fun d s4 => fComp X fg wp t e Q (l.map g) (acc ++ [d]) s4) (fun s4 => fComp X fg wp t e Q (l.map g) acc s4) (fun q => ?_) (fun q => ?_)
      · exact ih _ (fun b hb => hs b (List.mem_cons_of_mem _ hb)) (by rw [List.filter_cons_of_pos (by simp [q])] at h; simpa using h)
      · exact ih _ (fun b hb => hs b (List.mem_cons_of_mem _ hb)) (by rw [List.filter_cons_of_neg (by simp [q])] at h; exact h)
  exact go l [] hs (by simpa using h)
theorem st_all_map {α : Type} {l : List α} {b : α → Bool} {k : R → Prop} (h : k (.d (.bool (l.all b)))) : bAll [.list (l.map fun a => .bool (b a))] k := by
  refine st_all (bs := l.map b) (by simp) ?_
  rw [List.all_map]
  exact h
theorem st_any_map {α : Type} {l : List α} {b : α → Bool} {k : R → Prop} (h : k (.d (.bool (l.any b)))) : bAny [.list (l.map fun a => .bool (b a))] k := by
  refine st_any (bs := l.map b) (by simp) ?_
  rw [List.any_map]
  exact h
theorem loop_list {α : Type} {nx bk ct : S → Prop} {rt : R → S → Prop} {xx : XF} {f1 : FS} {fg : FG} {wp : List Nat} (g : α → D) (I : List α → S → Prop) (hend : ∀ s, I [] s → nx s)
    (hstep : ∀ a l s (k : S → Prop), I (a :: l) s → (∀ s', I l s' → k s') → fg (g a) s fun s1 => f1 ⟨fun s2 => k (wipeS s2 wp), rt, fun s2 => wipeK s2 wp nx, fun s2 => k (wipeS s2 wp), xx⟩ s1) : ∀ l s, I l s → fLoop fg wp f1 ⟨nx, rt, bk, ct, xx⟩ (l.map g) s
  | [], s, h => hend s h
  | a :: l, s, h => hstep a l s (fLoop fg wp f1 ⟨nx, rt, bk, ct, xx⟩ (l.map g)) h fun s' h' => loop_list g I hend hstep l s' h'
theorem st_mul_t {xs : List D} {n : Int} {k : R → Prop} (z0 : xs ≠ []) (z1 : 0 ≤ n) (z2 : n ≤ 1000) (z3 : xs.length ≤ 1000) (h : k (.d (.tuple (List.replicate n.toNat xs).flatten))) : opMul (.tuple xs) (.int n) k := ⟨z0, z1, z2, z3, h⟩
theorem st_mul_l {xs : List D} {n : Int} {k : R → Prop} (z1 : -(2 ^ 63) ≤ n) (z2 : n < 2 ^ 63) (z3 : xs.length * n.toNat ≤ sizeLine) (h : k (.own (.l (List.replicate n.toNat xs).flatten))) : opMul (.list xs) (.int n) k := ⟨z1, z2, z3, h⟩
theorem st_ne_lit {ns : List Int} {k : R → Prop} (h : k (.d (.bool (decide (0 < ns.length))))) : cNe (litD ns) (.list []) k := by
  have one : ∀ ns : List Int, PyData.canLayAll0 (ns.map PyData.int) = true ∧ PyData.depthAll (ns.map PyData.int) ≤ 1 := by
    intro ns
    induction ns with
    | nil => exact ⟨rfl, by show (0 : Nat) ≤ 1; decide⟩
    | cons n ns ih =>
      refine ⟨?_, ?_⟩
      · show ((PyData.int n).canLay0 && PyData.canLayAll0 (ns.map PyData.int)) = true
        rw [ih.1]; rfl
      · show max ((PyData.int n).depth) (PyData.depthAll (ns.map PyData.int)) ≤ 1
        have h2 : (PyData.int n).depth ≤ 1 := by simp [PyData.depth]
        have h3 := ih.2
        omega
  obtain ⟨o1, o2⟩ := one ns
  refine st_ne (x := litD ns) ?_ rfl ?_
  · show SeqAt.shaped (.list (ns.map PyData.int)) = true
    unfold SeqAt.shaped
    rw [show (PyData.list (ns.map PyData.int)).canLay0 = PyData.canLayAll0 (ns.map PyData.int) from by simp [PyData.canLay0], o1]
    simp [PyData.depth]
    omega
  · show k (.d (.bool (!PyData.eqvAll (ns.map PyData.int) [])))
    cases ns with
    | nil => exact h
    | cons n ns => simpa [PyData.eqvAll] using h
theorem st_insert {kk : D → List D → Prop} {xs : List D} {j : Int} {d : D} (z : xs.length < sizeLine) (z1 : 0 ≤ j) (z2 : j < 2 ^ 63) (h : kk .none (xs.take j.toNat ++ [d] ++ xs.drop j.toNat)) : mInsert xs [.int j, d] kk := ⟨z, z1, z2, h⟩
/-! ### values -/
theorem shaped_int {i : Int} : SeqAt.shaped (.int i) = true := rfl
theorem canLay_pairs : ∀ ts : List (Int × Int), PyData.canLayAll0 (ts.map pairD) = true
  | [] => rfl
  | t :: ts => by
    show ((pairD t).canLay0 && PyData.canLayAll0 (ts.map pairD)) = true
    rw [canLay_pairs ts]; rfl
theorem depth_pairs : ∀ ts : List (Int × Int), PyData.depthAll (ts.map pairD) ≤ 2
  | [] => by show (0 : Nat) ≤ 2; decide
  | t :: ts => by
    show max ((pairD t).depth) (PyData.depthAll (ts.map pairD)) ≤ 2
    have h := depth_pairs ts
    have h2 : (pairD t).depth ≤ 2 := by unfold pairD; simp [PyData.depth, PyData.depthAll]
    omega
theorem shaped_pairD {p : Int × Int} : SeqAt.shaped (pairD p) = true := rfl
theorem shaped_pairs {ts : List (Int × Int)} : SeqAt.shaped (.tuple (ts.map pairD)) = true := by
  unfold SeqAt.shaped
  rw [show (PyData.tuple (ts.map pairD)).canLay0 = PyData.canLayAll0 (ts.map pairD) from by simp [PyData.canLay0], canLay_pairs]
  have h := depth_pairs ts
  simp [PyData.depth]
  omega
theorem shaped_pairsL {ts : List (Int × Int)} : SeqAt.shaped (.list (ts.map pairD)) = true := by
  unfold SeqAt.shaped
  rw [show (PyData.list (ts.map pairD)).canLay0 = PyData.canLayAll0 (ts.map pairD) from by simp [PyData.canLay0], canLay_pairs]
  have h := depth_pairs ts
  simp [PyData.depth]
  omega
theorem eqv_pair {p q : Int × Int} : PyData.eqv (pairD p) (pairD q) = decide (p = q) := by
  obtain ⟨a, b⟩ := p
  obtain ⟨c, d⟩ := q
  simp only [pairD, PyData.eqv, PyData.eqvAll, Prod.mk.injEq, Bool.and_true]
  by_cases h1 : a = c <;> by_cases h2 : b = d <;> simp [h1, h2]
theorem any_pair {ts : List (Int × Int)} {p : Int × Int} : ((ts.map pairD).any fun z => PyData.eqv z (pairD p)) = decide (p ∈ ts) := by
  rw [List.any_map]
  apply Bool.eq_iff_iff.mpr
  simp only [List.any_eq_true, Function.comp, eqv_pair, decide_eq_true_eq]
  constructor
  · rintro ⟨q, h, rfl⟩; exact h
  · intro h; exact ⟨p, h, rfl⟩
theorem st_in_pt {ts : List (Int × Int)} {a b : Int} {k : R → Prop} (h : k (.d (.bool (decide ((a, b) ∈ ts))))) : cIn (.tuple [.int a, .int b]) (.tuple (ts.map pairD)) k := by
  refine st_in_t (shaped_pairD (p := (a, b))) shaped_pairs ?_
  rw [show (PyData.tuple [.int a, .int b]) = pairD (a, b) from rfl, any_pair]
  exact h
theorem st_in_pl {ts : List (Int × Int)} {a b : Int} {k : R → Prop} (h : k (.d (.bool (decide ((a, b) ∈ ts))))) : cIn (.tuple [.int a, .int b]) (.list (ts.map pairD)) k := by
  refine st_in_l (shaped_pairD (p := (a, b))) shaped_pairsL ?_
  rw [show (PyData.tuple [.int a, .int b]) = pairD (a, b) from rfl, any_pair]
  exact h
/-- a web -/
abbrev webD (n : Int) (ts : List (Int × Int)) : D := .tuple [.int n, .tuple (ts.map pairD)]
structure Good (n : Int) (ts : List (Int × Int)) : Prop where
  n0 : 0 ≤ n
  n10 : n ≤ 10
  ties : ∀ p ∈ ts, 0 ≤ p.1 ∧ p.1 < p.2 ∧ p.2 < n
  up : ts.Pairwise (fun p q => ltPr p q = true)
  few : ts.length ≤ 1000
theorem lex_pair {p q : Int × Int} : HT.lexLt [p.1, p.2] [q.1, q.2] = ltPr p q := by
  unfold ltPr
  rw [HT.lexLt_cons]
  by_cases h : p.1 = q.1
  · rw [if_pos h, h, HT.lexLt_cons]
    by_cases h2 : p.2 = q.2
    · rw [if_pos h2, h2]; simp [HT.lexLt_nil_nil]
    · rw [if_neg h2]; simp
  · rw [if_neg h]; simp [h]
theorem at_ok {ns : List Int} {i : Int} (h0 : 0 ≤ i) (h1 : i < (ns.length : Int)) : ∃ z, L2.atI ns i = some z := by
  obtain ⟨k, rfl⟩ := Int.eq_ofNat_of_zero_le h0
  have hk : k < ns.length := by omega
  exact ⟨ns[k], L2.atI_nat (by simp [hk])⟩
/-- sorted, each once: strictly rising -/
theorem strict_of {ps qs : List (Int × Int)} (hp : qs.Perm ps) (hn : ps.Nodup) (hs : qs.Pairwise (fun p q => ltPr q p = false)) : qs.Pairwise (fun p q => ltPr p q = true) := by
  have hn' : qs.Pairwise (· ≠ ·) := hp.nodup_iff.mpr hn
  refine (List.Pairwise.and hs hn').imp fun {p q} h => ?_
  obtain ⟨h1, h2⟩ := h
  obtain ⟨a, b⟩ := p
  obtain ⟨c, d⟩ := q
  unfold ltPr at *
  simp only [Bool.or_eq_true, decide_eq_true_eq, Bool.and_eq_true, beq_iff_eq, Bool.or_eq_false_iff, Bool.and_eq_false_iff, decide_eq_false_iff_not, beq_eq_false_iff_ne, ne_eq, Prod.mk.injEq] at *
  omega
def atZ (ks : List Int) (i : Int) : Int := ks.getD i.toNat 0
theorem atZ_ok {ks : List Int} {i : Int} (h0 : 0 ≤ i) (h1 : i < (ks.length : Int)) : L2.atI (ks.map PyData.int) i = some (.int (atZ ks i)) := by
  obtain ⟨k, rfl⟩ := Int.eq_ofNat_of_zero_le h0
  have hk : k < ks.length := by omega
  refine L2.atI_nat ?_
  rw [List.getElem?_map, List.getElem?_eq_getElem hk]
  simp [atZ, List.getD_eq_getElem?_getD, List.getElem?_eq_getElem hk]
/-! ### a web's text -/
theorem shown_int {i : Int} (h0 : 0 ≤ i) (h1 : i ≤ 10) : (PyData.shown (.int i)).length ≤ 2 := by
  have : i = 0 ∨ i = 1 ∨ i = 2 ∨ i = 3 ∨ i = 4 ∨ i = 5 ∨ i = 6 ∨ i = 7 ∨ i = 8 ∨ i = 9 ∨ i = 10 := by omega
  rcases this with rfl | rfl | rfl | rfl | rfl | rfl | rfl | rfl | rfl | rfl | rfl <;> (simp only [PyData.shown]; decide +kernel)
theorem tupleText_le (ts : List Str) : (tupleText ts).length ≤ piled ts + 3 := by
  unfold tupleText
  rw [strLen_append, strLen_append]
  have h1 : ((if ts.length == 1 then ",)" else ")" : String) : Str).length ≤ 2 := by split <;> decide +kernel
  have h2 : (("(" : String) : Str).length = 1 := rfl
  have h3 : (Str.join ", " ts).length ≤ piled ts := by
    by_cases h : ts = []
    · subst h; exact Nat.zero_le _
    · have := join_length_add ts h; omega
  omega
theorem piled_le {m : Nat} : ∀ ts : List Str, (∀ t ∈ ts, t.length ≤ m) → piled ts ≤ (m + 2) * ts.length
  | [], _ => by simp [piled]
  | t :: ts, h => by
    have h1 := h t List.mem_cons_self
    have h2 := piled_le ts fun u hu => h u (List.mem_cons_of_mem _ hu)
    rw [piled_cons, List.length_cons, Nat.mul_add]
    omega
theorem shownAll_map (xs : List D) : PyData.shownAll xs = xs.map PyData.shown := by
  induction xs with
  | nil => rfl
  | cons x xs ih => show PyData.shown x :: PyData.shownAll xs = _; rw [ih]; rfl
theorem shown_pair {p : Int × Int} (h : 0 ≤ p.1 ∧ p.1 ≤ 10 ∧ 0 ≤ p.2 ∧ p.2 ≤ 10) : (PyData.shown (pairD p)).length ≤ 20 := by
  have e : PyData.shown (pairD p) = tupleText [PyData.shown (.int p.1), PyData.shown (.int p.2)] := by simp only [pairD, PyData.shown, PyData.shownAll]
  rw [e]
  have a := shown_int h.1 h.2.1
  have b := shown_int h.2.2.1 h.2.2.2
  have c := tupleText_le [PyData.shown (.int p.1), PyData.shown (.int p.2)]
  have d := piled_le (m := 2) [PyData.shown (.int p.1), PyData.shown (.int p.2)] (by simp [a, b])
  simp at d
  omega
theorem shown_web {n : Int} {ts : List (Int × Int)} (g : Good n ts) : (webD n ts).shown.length ≤ 30000 := by
  have h1 := g.n0
  have h2 := g.n10
  have e : (webD n ts).shown = tupleText [PyData.shown (.int n), tupleText ((ts.map pairD).map PyData.shown)] := by
    simp only [webD, PyData.shown, PyData.shownAll]
    rw [shownAll_map]
  rw [e]
  have a := shown_int h1 h2
  have b := tupleText_le ((ts.map pairD).map PyData.shown)
  have b2 := piled_le (m := 20) ((ts.map pairD).map PyData.shown) fun t ht => by
    obtain ⟨d, hd, rfl⟩ := List.mem_map.mp ht
    obtain ⟨p, hp, rfl⟩ := List.mem_map.mp hd
    have := g.ties p hp
    exact shown_pair (by omega)
  rw [List.length_map, List.length_map] at b2
  have c := tupleText_le [PyData.shown (.int n), tupleText ((ts.map pairD).map PyData.shown)]
  have few := g.few
  simp only [piled_cons] at c
  have d : piled [] = 0 := rfl
  omega
theorem showable_pairs {n : Int} {ts : List (Int × Int)} (g : Good n ts) : PyData.showableAll (ts.map pairD) = true := by
  have h := g.ties
  have h2 := g.n10
  clear g
  induction ts with
  | nil => rfl
  | cons t ts ih =>
    show (PyData.showable (pairD t) && PyData.showableAll (ts.map pairD)) = true
    rw [ih fun p hp => h p (List.mem_cons_of_mem _ hp)]
    have ht := h t List.mem_cons_self
    have lg : ∀ i : Int, 0 ≤ i → i ≤ 10 → i.natAbs.log2 < 1920 := fun i h0 h1 => by
      have := lg_le (n := i.natAbs) (k := 4) (by omega)
      omega
    simp [pairD, PyData.showable, PyData.showableAll, lg t.1 (by omega) (by omega), lg t.2 (by omega) (by omega)]
theorem canLay_web {n : Int} {ts : List (Int × Int)} : (webD n ts).canLay0 = true := by
  simp [webD, PyData.canLay0, PyData.canLayAll0, canLay_pairs]
theorem shaped_web {n : Int} {ts : List (Int × Int)} : SeqAt.shaped (webD n ts) = true := by
  unfold SeqAt.shaped
  rw [canLay_web]
  have h := depth_pairs ts
  simp [webD, PyData.depth, PyData.depthAll]
  omega
theorem st_repr_web {n : Int} {ts : List (Int × Int)} {k : R → Prop} (g : Good n ts) (h : k (.d (.str (webD n ts).shown))) : bRepr [webD n ts] k := by
  refine ⟨shaped_web, ?_, PyData.hasDict_of_canLay _ canLay_web, Nat.le_trans (shown_web g) (by decide), h⟩
  have h2 : n.natAbs.log2 < 1920 := by
    have := g.n0
    have := g.n10
    have := lg_le (n := n.natAbs) (k := 4) (by omega)
    omega
  simp [webD, PyData.showable, PyData.showableAll, showable_pairs g, h2]
/-! ### rows of whole numbers -/
theorem lay_ints : ∀ ns : List Int, PyData.canLayAll0 (ns.map PyData.int) = true ∧ PyData.depthAll (ns.map PyData.int) ≤ 1
  | [] => ⟨rfl, Nat.zero_le _⟩
  | n :: ns => by
    obtain ⟨h1, h2⟩ := lay_ints ns
    refine ⟨by show ((PyData.int n).canLay0 && PyData.canLayAll0 (ns.map PyData.int)) = true; rw [h1]; rfl, ?_⟩
    show max ((PyData.int n).depth) (PyData.depthAll (ns.map PyData.int)) ≤ 1
    have h3 : (PyData.int n).depth ≤ 1 := by simp [PyData.depth]
    omega
theorem shaped_intsL {ns : List Int} : SeqAt.shaped (.list (ns.map PyData.int)) = true := by
  obtain ⟨h1, h2⟩ := lay_ints ns
  unfold SeqAt.shaped
  rw [show (PyData.list (ns.map PyData.int)).canLay0 = PyData.canLayAll0 (ns.map PyData.int) from by simp [PyData.canLay0], h1]
  simp [PyData.depth]
  omega
theorem shaped_intsT {ns : List Int} : SeqAt.shaped (.tuple (ns.map PyData.int)) = true := by
  obtain ⟨h1, h2⟩ := lay_ints ns
  unfold SeqAt.shaped
  rw [show (PyData.tuple (ns.map PyData.int)).canLay0 = PyData.canLayAll0 (ns.map PyData.int) from by simp [PyData.canLay0], h1]
  simp [PyData.depth]
  omega
theorem eqv_ints : ∀ ns ms : List Int, PyData.eqvAll (ns.map PyData.int) (ms.map PyData.int) = decide (ns = ms)
  | [], [] => rfl
  | [], _ :: _ => rfl
  | _ :: _, [] => rfl
  | n :: ns, m :: ms => by
    show (PyData.eqv (.int n) (.int m) && PyData.eqvAll (ns.map PyData.int) (ms.map PyData.int)) = _
    rw [eqv_ints ns ms]
    simp only [PyData.eqv]
    by_cases h1 : n = m <;> by_cases h2 : ns = ms <;> simp [h1, h2]
theorem st_ne_ll {ns ms : List Int} {k : R → Prop} (h : k (.d (.bool (!decide (ns = ms))))) : cNe (.list (ns.map .int)) (.list (ms.map .int)) k := by
  refine st_ne (x := .list (ns.map .int)) (y := .list (ms.map .int)) shaped_intsL shaped_intsL ?_
  show k (.d (.bool (!PyData.eqvAll (ns.map .int) (ms.map .int))))
  rw [eqv_ints]
  exact h
def rangeI (n : Nat) : List Int := (List.range n).map fun (k : Nat) => (k : Int)
theorem rangeD_map {n : Nat} : rangeD 0 n = (rangeI n).map PyData.int := by
  unfold rangeD rangeI
  rw [List.map_map]
  apply List.map_congr_left
  intro k _
  simp
theorem rangeI_len {n : Nat} : (rangeI n).length = n := by unfold rangeI; simp
theorem rangeI_succ {n : Nat} : rangeI (n + 1) = rangeI n ++ [(n : Int)] := by unfold rangeI; rw [List.range_succ, List.map_append]; rfl
theorem rangeI_mem {n : Nat} {i : Int} : i ∈ rangeI n ↔ 0 ≤ i ∧ i < n := by
  unfold rangeI
  rw [List.mem_map]
  constructor
  · rintro ⟨k, hk, rfl⟩
    have := List.mem_range.mp hk
    omega
  · rintro ⟨h0, h1⟩
    exact ⟨i.toNat, List.mem_range.mpr (by omega), by omega⟩
/-! ### cups -/
/-- script, where, what is left to be drawn from; F draws are allowed at least -/
def Cup (ns : List Int) (F : Nat) (xs : List D) : Prop := ∃ a v : Int, xs = [litD ns, .int a, .int v] ∧ 0 ≤ a ∧ a + (F : Int) ≤ 2 ^ 64
theorem Cup.less {ns : List Int} {F G : Nat} {xs : List D} (h : Cup ns F xs) (l : G ≤ F) : Cup ns G xs := by
  obtain ⟨a, v, e, h0, h1⟩ := h
  exact ⟨a, v, e, h0, by omega⟩
end Hs
/-! HsU: steps for dicts, for what is only looked at, for owned tuples. -/
namespace Hs
open PySem
class PvAll (ws : List PV) (ds : outParam (List D)) : Prop where e : ws.map PV.asD = ds
instance pvN : PvAll [] [] := ⟨rfl⟩
instance pvD {x : D} {ws : List PV} {ds : List D} [h : PvAll ws ds] : PvAll (.d x :: ws) (x :: ds) := ⟨by rw [List.map_cons, h.e]; rfl⟩
instance pvL {x : List D} {ws : List PV} {ds : List D} [h : PvAll ws ds] : PvAll (.l x :: ws) (.list x :: ds) := ⟨by rw [List.map_cons, h.e]; rfl⟩
instance pvC {x : List (D × D)} {ws : List PV} {ds : List D} [h : PvAll ws ds] : PvAll (.dc x :: ws) (.dict x :: ds) := ⟨by rw [List.map_cons, h.e]; rfl⟩
class Frz (s : S) (s' : outParam S) : Prop where e : frzS s = s'
instance frzN : Frz [] [] := ⟨rfl⟩
theorem frzC {w : SV} {s s' : S} (h : frzS s = s') : frzS (w :: s) = frz1 w :: s' := by rw [← h]; rfl
instance frzNo {s s' : S} [h : Frz s s'] : Frz (.no :: s) (.no :: s') := ⟨frzC h.e⟩
instance frzD {x : D} {s s' : S} [h : Frz s s'] : Frz (.d x :: s) (.d x :: s') := ⟨frzC h.e⟩
instance frzL {x : List D} {s s' : S} [h : Frz s s'] : Frz (.l x :: s) (.d (.list x) :: s') := ⟨frzC h.e⟩
instance frzLL {x : List (List D)} {s s' : S} [h : Frz s s'] : Frz (.ll x :: s) (.d (.list (x.map .list)) :: s') := ⟨frzC h.e⟩
instance frzDc {x : List (D × D)} {s s' : S} [h : Frz s s'] : Frz (.dc x :: s) (.d (.dict x) :: s') := ⟨frzC h.e⟩
instance frzTp {ws : List PV} {ds : List D} {s s' : S} [p : PvAll ws ds] [h : Frz s s'] : Frz (.tp ws :: s) (.d (.tuple ds) :: s') := ⟨by
  rw [← p.e]
  exact frzC h.e⟩
def bindT (rs : List R) (s : S) (k : List SV → S → Prop) : Prop := bindA (List.replicate rs.length true) rs s k
section
variable {s' s'' : S}
variable {nx bk ct : S → Prop} {rt : R → S → Prop} {X xx : XF} {s : S} {a b c e : FE} {t u : FT} {f1 f2 : FS} {Q : R → S → Prop} {P : R → Prop} {i j : Nat} {x y d : D} {v : SV} {g g' : V2} {r : R} {rs : List R}
theorem st_ix2_l {xs : List D} (h : ixD (.list xs) x P) : ixD2 (.list xs) x P := .inl h
theorem st_ix2_t {xs : List D} (h : ixD (.tuple xs) x P) : ixD2 (.tuple xs) x P := .inl h
theorem st_ix2_s {z : Str} (h : ixD (.str z) x P) : ixD2 (.str z) x P := .inl h
theorem st_ix2_lit {ns : List Int} (h : ixD (litD ns) x P) : ixD2 (litD ns) x P := .inl h
theorem st_inK_l {xs : List D} (h : cIn x (.list xs) P) : cInK x (.list xs) P := .inl h
theorem st_inK_t {xs : List D} (h : cIn x (.tuple xs) P) : cInK x (.tuple xs) P := .inl h
theorem st_ninK_l {xs : List D} (h : cNotIn x (.list xs) P) : cNotInK x (.list xs) P := .inl h
theorem st_ninK_t {xs : List D} (h : cNotIn x (.tuple xs) P) : cNotInK x (.tuple xs) P := .inl h
theorem st_setD (h : a xx s fun r s1 => onDc i s1 fun _ => e xx s1 fun rj s2 => frz r s2 fun d s3 => frz rj s3 fun k s4 => onDc i s4 fun kvs => dPut kvs k d fun kvs' => putR i (.own (.dc kvs')) s4 nx) : fSetD i e a ⟨nx, rt, bk, ct, xx⟩ s := h
theorem st_onDc {k : List (D × D) → Prop} {xs : List (D × D)} [e : Get s i (.dc xs)] (h : k xs) : onDc i s k := by unfold onDc; rw [e.e]; exact h
theorem st_dget2 (h : onDc i s fun _ => a X s fun rj s1 => b X s1 fun rx s2 => frz rj s2 fun k s3 => frz rx s3 fun d s4 => onDc i s4 fun kvs => dGet kvs k fun o => Q (.d (o.getD d)) s4) : fDGet2 i a b X s Q := h
theorem st_emT (h : Q (.own (.dc [(.none, .none)])) s) : fEmT X s Q := h
def keyK (d : D) (K : L2.Key → Prop) : Prop := match keyN d with
  | some k' => K k'
  | none => False
theorem st_disp1 (h : a X s fun rk s1 => b X s1 fun rv s2 => frz rk s2 fun kd s3 => frz rv s3 fun d s4 => keyK kd fun k' => Q (.own (.dc [(keyD k', d)])) s4) : fDisp1 a b X s Q := h
theorem st_disp1k {z : Int} {K : L2.Key → Prop} (h : K (.inl z)) : keyK (.int z) K := h
theorem st_range3 {fa : FA} {Q : List D → S → Prop} (h : fa X s fun rs s2 => match rs with
  | [.d (.int i), .d (.int j), .d (.int c)] => c = -1 ∧ lim62 i ∧ lim62 j ∧ Q (downD i (i - j).toNat) s2
  | _ => False) : iRange3 fa X s Q := h
theorem st_bor [f : Frz s s'] (h : a (fun _ _ => False) s' fun r _ => flatR r (Q r s)) : fBor a X s Q := by
  unfold fBor
  rw [f.e]
  exact h
theorem st_borT {Q : Bool → S → Prop} [f : Frz s s'] (h : t (fun _ _ => False) s' fun b _ => Q b s) : fBorT t X s Q := by
  unfold fBorT
  rw [f.e]
  exact h
theorem st_borS {n : Nat} {W : List Nat} {fb : FS} [f : Frz s s'] (hn : s.length ≤ n) (h : wipeK s W fun s2 => fb ⟨fun _ => nx s2, fun r _ => flatS r (rt r s2), fun _ => bk s2, fun _ => ct s2, fun _ _ => False⟩ s') : fBorS n W fb ⟨nx, rt, bk, ct, xx⟩ s := by
  unfold fBorS
  rw [f.e]
  exact ⟨hn, h⟩
theorem st_bindT_nil {k : List SV → S → Prop} (h : k [] s) : bindT [] s k := h
theorem st_bindT_d {k : List SV → S → Prop} (h : bindT rs s fun svs s2 => k (.d x :: svs) s2) : bindT (.d x :: rs) s k := h
theorem st_bindT_o {k : List SV → S → Prop} (h : bindT rs s fun svs s2 => k (v :: svs) s2) : bindT (.own v :: rs) s k := h
theorem st_bindT_t {k : List SV → S → Prop} [g : Get s i v] [p : Put s i .no s'] (h : bindT rs s' fun svs s2 => k (v :: svs) s2) : bindT (.top i :: rs) s k := by
  show bindA (List.replicate rs.length true) rs (s.set i .no) (fun svs s2 => k (s.getD i .no :: svs) s2)
  rw [p.e, g.e]
  exact h
theorem st_toPs_nil {k : List PV → Prop} (h : k []) : toPs [] k := h
theorem st_toPs_d {k : List PV → Prop} {r : List SV} (h : toPs r fun ws => k (.d x :: ws)) : toPs (.d x :: r) k := h
theorem st_toPs_l {k : List PV → Prop} {r : List SV} {xs : List D} (h : toPs r fun ws => k (.l xs :: ws)) : toPs (.l xs :: r) k := h
theorem st_toPs_dc {k : List PV → Prop} {r : List SV} {xs : List (D × D)} (h : toPs r fun ws => k (.dc xs :: ws)) : toPs (.dc xs :: r) k := h
theorem st_tupO {fa : FA} (h : fa X s fun rs s1 => bindT rs s1 fun svs s2 => toPs svs fun ws => Q (.own (.tp ws)) s2) : fTupO fa X s Q := h
theorem st_var_tp {ws : List PV} [e : Get s i (.tp ws)] (h : Q (.top i) s) : fVar i X s Q := by unfold fVar; rw [e.e]; exact h
theorem st_frz_own_tp {k : D → S → Prop} {ws : List PV} {ds : List D} [e : PvAll ws ds] (h : k (.tuple ds) s) : frz (.own (.tp ws)) s k := by
  show k (.tuple (ws.map PV.asD)) s
  rw [e.e]; exact h
theorem st_frz_top_tp {k : D → S → Prop} {ws : List PV} {ds : List D} [g : Get s i (.tp ws)] [e : PvAll ws ds] [p : Put s i (.d (.tuple ds)) s'] (h : k (.tuple ds) s') : frz (.top i) s k := frz_top' (x := .tuple ds) (by rw [g.e]; show some (PyData.tuple (ws.map PV.asD)) = _; rw [e.e]) (by rw [p.e]; exact h)
theorem st_onP {k : Nat} {kk : List PV → List D → Prop} {ws : List PV} {xs : List D} [g : Get s i (.tp ws)] (e : ws[k]? = some (.l xs)) (h : kk ws xs) : onP i k s kk := by
  unfold onP
  rw [g.e]
  dsimp only
  rw [e]
  exact h
theorem st_lmP {k : Nat} {g : LM} {fa : FA} (h : onP i k s fun _ _ => fa X s fun rs s1 => frzAll rs s1 fun ds s2 => onP i k s2 fun ws xs => g xs ds fun d xs' => putR i (.own (.tp (ws.set k (.l xs')))) s2 fun s3 => Q (.d d) s3) : fLmP i k g fa X s Q := h
theorem st_flat_d {P : Prop} (e : flatD x = true) (h : P) : flatR (.d x) P := ⟨e, h⟩
theorem st_flat_b {P : Prop} {z : Bool} (h : P) : flatR (.d (.bool z)) P := ⟨rfl, h⟩
theorem st_flat_i {P : Prop} {z : Int} (h : P) : flatR (.d (.int z)) P := ⟨rfl, h⟩
theorem st_flat_l {P : Prop} {xs : List D} (e : flatD.flatL xs = true) (h : P) : flatR (.own (.l xs)) P := ⟨e, h⟩
end
theorem flatL_map {α : Type} {f : α → D} (h : ∀ a, flatD (f a) = true) : ∀ xs : List α, flatD.flatL (xs.map f) = true
  | [] => rfl
  | x :: xs => by
    rw [List.map_cons]
    show (flatD (f x) && flatD.flatL (xs.map f)) = true
    rw [h x, flatL_map h xs]; rfl

/-! ### dicts of int keys, as functions -/
structure DIs (kvs : List (D × D)) (f : Int → Option D) : Prop where
  key : ∀ p ∈ kvs, ∃ i : Int, p.1 = .int i
  get : ∀ i : Int, (kvs.find? fun p => sameN p.1 (.inl i)).map (·.2) = f i
theorem DIs.nil : DIs [] fun _ => none := ⟨fun p hp => (nomatch hp), fun i => rfl⟩
theorem DIs.one (k : Int) (x : D) : DIs [(keyD (.inl k), x)] fun i => if i = k then some x else none := by
  refine ⟨fun p hp => ?_, fun i => ?_⟩
  · rw [List.mem_singleton] at hp
    exact ⟨k, by rw [hp]; rfl⟩
  · rw [List.find?_cons]
    dsimp only
    rw [sameN_keyD]
    by_cases h : i = k
    · subst h
      simp
    · rw [decide_eq_false (fun e => h (Sum.inl.inj e).symm), if_neg h]
      rfl
theorem DIs.dGet {kvs : List (D × D)} {f : Int → Option D} (h : DIs kvs f) {i : Int} {Q : Option D → Prop} (q : Q (f i)) : Hs.dGet kvs (.int i) Q := by
  unfold Hs.dGet
  rw [← h.get i] at q
  split
  · obtain ⟨j, e⟩ := h.key _ List.mem_cons_self
    cases e
  · obtain ⟨j, e⟩ := h.key _ List.mem_cons_self
    cases e
  · exact q
theorem find_repl {k : L2.Key} {x : D} (j : L2.Key) : ∀ kvs : List (D × D), ((kvs.map fun p => if sameN p.1 k = true then (p.1, x) else p).find? fun p => sameN p.1 j).map (·.2) = if j = k then ((kvs.find? fun p => sameN p.1 j).map fun _ => x) else (kvs.find? fun p => sameN p.1 j).map (·.2)
  | [] => by simp
  | p :: r => by
    have ih := find_repl (k := k) (x := x) j r
    rw [List.map_cons, List.find?_cons, List.find?_cons]
    have e1 : (if sameN p.1 k = true then (p.1, x) else p).1 = p.1 := by split <;> rfl
    rw [e1]
    cases hs : sameN p.1 j with
    | false => exact ih
    | true =>
      by_cases h : j = k
      · subst h
        rw [if_pos rfl, if_pos hs]; rfl
      · have : ¬ sameN p.1 k = true := fun h2 => by
          unfold sameN at hs h2
          have h3 := of_decide_eq_true hs
          have h4 := of_decide_eq_true h2
          rw [h3] at h4
          exact h (Option.some.inj h4)
        rw [if_neg h, if_neg this]
theorem find_snoc {k : L2.Key} {x : D} (j : L2.Key) : ∀ kvs : List (D × D), (kvs.any fun p => sameN p.1 k) = false → ((kvs ++ [(keyD k, x)]).find? fun p => sameN p.1 j).map (·.2) = if j = k then some x else (kvs.find? fun p => sameN p.1 j).map (·.2)
  | [], _ => by
    rw [List.nil_append, List.find?_cons]
    dsimp only
    rw [sameN_keyD]
    by_cases h : j = k
    · subst h; simp
    · rw [decide_eq_false (fun e => h e.symm), if_neg h]
  | p :: r, ha => by
    rw [List.any_cons, Bool.or_eq_false_iff] at ha
    have ih := find_snoc (k := k) (x := x) j r ha.2
    rw [List.cons_append, List.find?_cons, List.find?_cons]
    cases hs : sameN p.1 j with
    | false => exact ih
    | true =>
      have : ¬ j = k := fun h => by rw [h] at hs; rw [hs] at ha; cases ha.1
      rw [if_neg this]
theorem find_any {k : L2.Key} : ∀ kvs : List (D × D), (kvs.any fun p => sameN p.1 k) = true → ((kvs.find? fun p => sameN p.1 k)).isSome = true
  | [], h => by cases h
  | p :: r, h => by
    rw [List.find?_cons]
    cases hs : sameN p.1 k with
    | true => rfl
    | false =>
      rw [List.any_cons, hs] at h
      exact find_any r h
theorem DIs.put {kvs : List (D × D)} {f : Int → Option D} (h : DIs kvs f) (k : Int) (x : D) : DIs (putN kvs (.inl k) x) fun i => if i = k then some x else f i := by
  unfold putN
  split
  · rename_i ha
    refine ⟨fun p hp => ?_, fun i => ?_⟩
    · obtain ⟨q, hq, rfl⟩ := List.mem_map.mp hp
      obtain ⟨j, e⟩ := h.key q hq
      refine ⟨j, ?_⟩
      split <;> exact e
    · rw [find_repl]
      by_cases hi : i = k
      · subst hi
        rw [if_pos rfl, if_pos rfl]
        have := find_any kvs ha
        cases e : kvs.find? (fun p => sameN p.1 (.inl i)) with
        | none => rw [e] at this; cases this
        | some q => rfl
      · rw [if_neg (fun e => hi (Sum.inl.inj e)), if_neg hi]
        exact h.get i
  · rename_i ha
    have ha : (kvs.any fun p => sameN p.1 (.inl k)) = false := by simpa using ha
    refine ⟨fun p hp => ?_, fun i => ?_⟩
    · rcases List.mem_append.mp hp with hp | hp
      · exact h.key p hp
      · rw [List.mem_singleton] at hp
        exact ⟨k, by rw [hp]; rfl⟩
    · rw [find_snoc _ _ ha]
      by_cases hi : i = k
      · subst hi; rw [if_pos rfl, if_pos rfl]
      · rw [if_neg (fun e => hi (Sum.inl.inj e)), if_neg hi]
        exact h.get i
theorem putN_len (kvs : List (D × D)) (k : L2.Key) (x : D) : (putN kvs k x).length ≤ kvs.length + 1 := by
  unfold putN
  split
  · rw [List.length_map]; omega
  · simp
theorem DIs.dPut {kvs : List (D × D)} {f : Int → Option D} (h : DIs kvs f) {k : Int} {x : D} {Q : List (D × D) → Prop} (hl : kvs.length < sizeLine) (q : ∀ kvs', DIs kvs' (fun i => if i = k then some x else f i) → kvs'.length ≤ kvs.length + 1 → Q kvs') : Hs.dPut kvs (.int k) x Q := by
  unfold Hs.dPut
  split
  · obtain ⟨j, e⟩ := h.key _ List.mem_cons_self
    cases e
  · obtain ⟨j, e⟩ := h.key _ List.mem_cons_self
    cases e
  · exact ⟨hl, q _ (h.put k x) (putN_len _ _ _)⟩
theorem st_ix2_I {kvs : List (D × D)} {f : Int → Option D} {i : Int} {x : D} {P : R → Prop} (h : DIs kvs f) (e : f i = some x) (q : P (.d x)) : ixD2 (.dict kvs) (.int i) P := .inr ⟨kvs, rfl, h.dGet ⟨x, e, q⟩⟩
theorem st_inK_I {kvs : List (D × D)} {f : Int → Option D} {i : Int} {P : R → Prop} (h : DIs kvs f) (q : P (.d (.bool (f i).isSome))) : cInK (.int i) (.dict kvs) P := .inr ⟨kvs, rfl, h.dGet q⟩
theorem st_ninK_I {kvs : List (D × D)} {f : Int → Option D} {i : Int} {P : R → Prop} (h : DIs kvs f) (q : P (.d (.bool (!(f i).isSome)))) : cNotInK (.int i) (.dict kvs) P := .inr ⟨kvs, rfl, h.dGet q⟩
theorem st_dict {kvs : List (D × D)} {f : Int → Option D} {P : R → Prop} (h : DIs kvs f) (q : P (.own (.dc kvs))) : bDict [.dict kvs] P := by
  unfold bDict
  dsimp only
  split
  · obtain ⟨j, e⟩ := h.key _ List.mem_cons_self
    cases e
  · exact q
end Hs
/-! HsOb: objects with fields: read, stored, their lists changed; methods; new objects. -/
namespace Hs
open PySem PySem.Spec PyProof.Rows L2
def putP (f : Str) (w : PV) : List (Str × PV) → List (Str × PV)
  | [] => [(f, w)]
  | (g, x) :: r => if g = f then (g, w) :: r else (g, x) :: putP f w r
def getP (f : Str) : List (Str × PV) → Option PV
  | [] => none
  | (g, x) :: r => if g = f then some x else getP f r
def kvLook (f : Str) : List (D × D) → Option D
  | (.str g, x) :: r => if g = f then some x else kvLook f r
  | _ => none
/-- an object of the class c, its own slot's or one that nobody changes -/
def obAt (c : Str) (sv : SV) (kO : List (Str × PV) → Prop) (kD : List (D × D) → Prop) : Prop := match sv with
  | .ob c' fs => c' = c ∧ kO fs
  | .d (.dict ((.none, .bool true) :: (.none, .str c') :: kvs)) => c' = c ∧ kD kvs
  | _ => False
def onOb (c : Str) (i : Nat) (s : S) (k : List (Str × PV) → Prop) : Prop := match s.getD i .no with
  | .ob c' fs => c' = c ∧ k fs
  | _ => False
def onFL (c : Str) (i : Nat) (f : Str) (s : S) (k : List (Str × PV) → List D → Prop) : Prop := onOb c i s fun fs => match getP f fs with
  | some (.l xs) => k fs xs
  | _ => False
theorem onOb_ok {c : Str} {i : Nat} {s : S} {k : List (Str × PV) → Prop} (h : onOb c i s k) : ∃ fs, s.getD i .no = .ob c fs ∧ k fs := by
  unfold onOb at h
  generalize s.getD i .no = w at h
  cases w with
  | ob c' fs => obtain ⟨rfl, h⟩ := h; exact ⟨fs, rfl, h⟩
  | _ => exact h.elim
theorem onFL_ok {c : Str} {i : Nat} {f : Str} {s : S} {k : List (Str × PV) → List D → Prop} (h : onFL c i f s k) : ∃ fs xs, s.getD i .no = .ob c fs ∧ getP f fs = some (.l xs) ∧ k fs xs := by
  obtain ⟨fs, e, h⟩ := onOb_ok h
  generalize e2 : getP f fs = o at h
  match o, h with
  | some (.l xs), h => exact ⟨fs, xs, e, e2, h⟩
theorem look_cons {α : Type} (f g : Str) (v : α) (r : List (Str × α)) : ((g, v) :: r).lookup f = if g = f then some v else r.lookup f := by
  by_cases h : g = f
  · have hb : (f == g) = true := beq_iff_eq.mpr h.symm
    simp only [List.lookup, hb, if_pos h]
  · have hb : (f == g) = false := beq_eq_false_iff_ne.mpr (Ne.symm h)
    simp only [List.lookup, hb, if_neg h]
section
variable {K : PySem.W.Frag} {Z Z' Y Y' H H' : Hp} {σ σ' : St} {s s' : S} {f c : Str} {w : PV} {xs : List D}
theorem RpK.field : ∀ {fs : List (Str × V)} {kvs : List (D × D)}, RpK K Z (obK fs) kvs → ∀ {x : D}, kvLook f kvs = some x → ∃ v, fs.lookup f = some v ∧ Rp K Z v x
  | [], _, .nil, _, e => by cases e
  | (n, v) :: fs, _, .cons h r, x, e => by
    rw [look_cons]
    have e : (if n = f then some _ else kvLook f _) = some x := e
    by_cases hn : n = f
    · rw [if_pos hn] at e
      cases e
      exact ⟨v, if_pos hn, h⟩
    · rw [if_neg hn] at e
      rw [if_neg hn]
      exact RpK.field r e
theorem RpK.nofield : ∀ {fs : List (Str × V)} {kvs : List (D × D)}, RpK K Z (obK fs) kvs → kvLook f kvs = none → fs.lookup f = none
  | [], _, .nil, _ => rfl
  | (n, v) :: fs, _, .cons h r, e => by
    rw [look_cons]
    have e : (if n = f then some _ else kvLook f _) = none := e
    by_cases hn : n = f
    · rw [if_pos hn] at e
      cases e
    · rw [if_neg hn] at e
      rw [if_neg hn]
      exact RpK.nofield r e
theorem TpAt.field : ∀ {fs : List (Str × PV)} {vs : List V} {G : List Addr}, TpAt K Z H vs (fs.map (·.2)) G → getP f fs = some w → ∃ v F, ((fs.map (·.1)).zip vs).lookup f = some v ∧ PartAt K Z H v w F
  | [], _, _, .nil, e => by cases e
  | (n, w0) :: fs, v :: vs, _, .cons h r, e => by
    show ∃ v' F, ((n, v) :: ((fs.map (·.1)).zip vs)).lookup f = some v' ∧ _
    rw [look_cons]
    have e : (if n = f then some w0 else getP f fs) = some w := e
    by_cases hn : n = f
    · rw [if_pos hn] at e
      cases e
      exact ⟨v, _, if_pos hn, h⟩
    · rw [if_neg hn] at e
      rw [if_neg hn]
      exact TpAt.field r e
theorem TpAt.nofield : ∀ {fs : List (Str × PV)} {vs : List V} {G : List Addr}, TpAt K Z H vs (fs.map (·.2)) G → getP f fs = none → ((fs.map (·.1)).zip vs).lookup f = none
  | [], _, _, .nil, e => rfl
  | (n, w0) :: fs, v :: vs, _, .cons h r, e => by
    show ((n, v) :: ((fs.map (·.1)).zip vs)).lookup f = none
    rw [look_cons]
    have e : (if n = f then some w0 else getP f fs) = none := e
    by_cases hn : n = f
    · rw [if_pos hn] at e
      cases e
    · rw [if_neg hn] at e
      rw [if_neg hn]
      exact TpAt.nofield r e
theorem TpAt.put {y : V} {F' : List Addr} (hy : PartAt K Z H y w F') : ∀ {fs : List (Str × PV)} {vs : List V} {G : List Addr}, TpAt K Z H vs (fs.map (·.2)) G → G.Nodup → F'.Nodup → (∀ a ∈ F', a ∉ G) →
    ∃ vs' G', putF f y ((fs.map (·.1)).zip vs) = (((putP f w fs).map (·.1)).zip vs') ∧ TpAt K Z H vs' ((putP f w fs).map (·.2)) G' ∧ (∀ a ∈ G', a ∈ G ∨ a ∈ F') ∧ G'.Nodup
  | [], _, _, .nil, _, nd', _ => ⟨[y], F' ++ [], rfl, .cons hy .nil, fun a ha => .inr (by simpa using ha), by simpa using nd'⟩
  | (n, w0) :: fs, v :: vs, _, .cons (F := F0) (G := G0) h r, nd, nd', dj => by
    by_cases hn : n = f
    · refine ⟨y :: vs, F' ++ G0, ?_, ?_, fun a ha => ?_, ?_⟩
      · show (if n = f then (n, y) :: _ else _) = _
        rw [if_pos hn]
        show _ = ((if n = f then (n, w) :: fs else _).map (·.1)).zip _
        rw [if_pos hn]; rfl
      · show TpAt K Z H (y :: vs) ((if n = f then (n, w) :: fs else _).map (·.2)) _
        rw [if_pos hn]
        exact .cons hy r
      · rcases List.mem_append.mp ha with ha | ha
        · exact .inr ha
        · exact .inl (List.mem_append.mpr (.inr ha))
      · exact List.nodup_append.mpr ⟨nd', (List.nodup_append.mp nd).2.1, fun a ha b hb e => dj a ha (List.mem_append.mpr (.inr (e ▸ hb)))⟩
    · obtain ⟨vs', G', e1, t, m, n'⟩ := TpAt.put hy r (List.nodup_append.mp nd).2.1 nd' fun a ha hg => dj a ha (List.mem_append.mpr (.inr hg))
      refine ⟨v :: vs', F0 ++ G', ?_, ?_, fun a ha => ?_, ?_⟩
      · show (if n = f then (n, y) :: _ else (n, v) :: putF f y ((fs.map (·.1)).zip vs)) = _
        rw [if_neg hn, e1]
        show _ = ((if n = f then _ else (n, w0) :: putP f w fs).map (·.1)).zip _
        rw [if_neg hn]; rfl
      · show TpAt K Z H (v :: vs') ((if n = f then _ else (n, w0) :: putP f w fs).map (·.2)) _
        rw [if_neg hn]
        exact .cons h t
      · rcases List.mem_append.mp ha with ha | ha
        · exact .inl (List.mem_append.mpr (.inl ha))
        · rcases m a ha with h1 | h1
          · exact .inl (List.mem_append.mpr (.inr h1))
          · exact .inr h1
      · refine List.nodup_append.mpr ⟨(List.nodup_append.mp nd).1, n', fun a ha b hb e => ?_⟩
        subst e
        rcases m a hb with h1 | h1
        · exact (List.nodup_append.mp nd).2.2 a ha a h1 rfl
        · exact dj a h1 (List.mem_append.mpr (.inl ha))
theorem TpAt.fieldL : ∀ {fs : List (Str × PV)} {vs : List V} {G : List Addr}, TpAt K Z H vs (fs.map (·.2)) G → G.Nodup → getP f fs = some (.l xs) → ∃ q us, ((fs.map (·.1)).zip vs).lookup f = some (.ref q) ∧ q ∈ G ∧ H q = some (.lst us) ∧ us.length ≤ sizeLine ∧ RpAll K Z us xs ∧
    ∀ us' xs', us'.length ≤ sizeLine → RpAll K Z us' xs' → TpAt K Z (upd H q (.lst us')) vs ((putP f (.l xs') fs).map (·.2)) G ∧ (putP f (.l xs') fs).map (·.1) = fs.map (·.1)
  | [], _, _, .nil, _, e => by cases e
  | (n, w0) :: fs, v :: vs, _, .cons (F := F0) (G := G0) h r, nd, e => by
    have e : (if n = f then some w0 else getP f fs) = some (.l xs) := e
    by_cases hn : n = f
    · rw [if_pos hn] at e
      cases e
      obtain ⟨p, us, h1, h2, h3, h4, h5⟩ := h
      subst h1 h2
      refine ⟨p, us, ?_, by simp, h3, h4, h5, fun us' xs' hl ra => ⟨?_, ?_⟩⟩
      · show ((n, .ref p) :: ((fs.map (·.1)).zip vs)).lookup f = _
        rw [look_cons, if_pos hn]
      · show TpAt K Z _ _ ((if n = f then (n, PV.l xs') :: fs else _).map (·.2)) _
        rw [if_pos hn]
        have hpG : p ∉ G0 := fun hg => (List.nodup_append.mp nd).2.2 p (by simp) p hg rfl
        exact .cons (F := [p]) ⟨p, us', rfl, rfl, upd_same, hl, ra⟩ (r.other hpG)
      · show ((if n = f then (n, PV.l xs') :: fs else _).map (·.1)) = _
        rw [if_pos hn]; rfl
    · rw [if_neg hn] at e
      obtain ⟨q, us, h1, h2, h3, h4, h5, h6⟩ := TpAt.fieldL r (List.nodup_append.mp nd).2.1 e
      have hqF : q ∉ F0 := fun hf => (List.nodup_append.mp nd).2.2 q hf q h2 rfl
      refine ⟨q, us, ?_, List.mem_append.mpr (.inr h2), h3, h4, h5, fun us' xs' hl ra => ⟨?_, ?_⟩⟩
      · show ((n, v) :: ((fs.map (·.1)).zip vs)).lookup f = _
        rw [look_cons, if_neg hn, h1]
      · show TpAt K Z _ _ ((if n = f then _ else (n, w0) :: putP f (.l xs') fs).map (·.2)) _
        rw [if_neg hn]
        exact .cons (h.other hqF) (h6 us' xs' hl ra).1
      · show ((if n = f then _ else (n, w0) :: putP f (.l xs') fs).map (·.1)) = _
        rw [if_neg hn]
        show n :: (putP f (.l xs') fs).map (·.1) = _
        rw [(h6 us' xs' hl ra).2]; rfl
/-- an object that a slot holds, or that nobody changes -/
theorem Rp.obj_inv {v : V} {kvs : List (D × D)} (h : Rp K Z v (.dict ((.none, .bool true) :: (.none, .str c) :: kvs))) : ∃ (p dx : Addr) (fl : List (Str × V)), v = .ref p ∧ Z p = some (.ins (He.ga K c) dx fl) ∧ RpK K Z (obK fl) kvs := by
  generalize e0 : (PyData.dict ((.none, .bool true) :: (.none, .str c) :: kvs)) = d at h
  cases h with
  | obj h1 h2 a => cases e0; exact ⟨_, _, _, rfl, h1, a⟩
  | dcK h a => cases e0; exact a.nolit.elim
  | dcT h a => cases e0
  | lit h z => cases e0
  | exc h => cases e0
  | _ => cases e0
theorem Rel.obj (r : Rel K Z Y H σ s) {i : Nat} {kO : List (Str × PV) → Prop} {kD : List (D × D) → Prop} (h : obAt c (s.getD i .no) kO kD) : ∃ (p dx : Addr) (fl : List (Str × V)), σ.getD i none = some (.ref p) ∧ H p = some (.ins (He.ga K c) dx fl) ∧
    ((∃ fs vs G, s.getD i .no = .ob c fs ∧ fl = (fs.map (·.1)).zip vs ∧ TpAt K Z H vs (fs.map (·.2)) G ∧ kO fs) ∨ ∃ kvs, RpK K Z (obK fl) kvs ∧ kD kvs) := by
  obtain ⟨F, sl⟩ := r.slot i
  unfold obAt at h
  split at h
  · rename_i c' fs e
    obtain ⟨rfl, h⟩ := h
    rw [e] at sl
    obtain ⟨p, dx, vs, G, h1, h2, h3, h4, h5⟩ := sl
    exact ⟨p, dx, _, h1, h3, .inl ⟨fs, vs, G, e, rfl, h5, h⟩⟩
  · rename_i c' kvs e
    obtain ⟨rfl, h⟩ := h
    rw [e] at sl
    obtain ⟨_, u, h1, rp⟩ := sl
    obtain ⟨p, dx, fl, rfl, h2, h3⟩ := rp.obj_inv
    exact ⟨p, dx, fl, h1, r.zh _ _ h2, .inr ⟨kvs, h3, h⟩⟩
  · exact h.elim
theorem Rel.putF {v : V} (r : Rel K Z Y H (σ ++ [some v]) (s ++ [w.sv])) (hl : σ.length = s.length) {i : Nat} {fs : List (Str × PV)} (hs : s.getD i .no = .ob c fs) : ∃ p dx vs, σ.getD i none = some (.ref p) ∧ H p = some (.ins (He.ga K c) dx ((fs.map (·.1)).zip vs)) ∧ vs.length = fs.length ∧
    Rel K Z Y (upd H p (.ins (He.ga K c) dx (L2.putF f v ((fs.map (·.1)).zip vs)))) σ (s.set i (.ob c (putP f w fs))) := by
  obtain ⟨F, o⟩ := r.own
  have hi : i < s.length := by
    by_cases h : i < s.length
    · exact h
    · rw [getD_out (by omega)] at hs; cases hs
  have sl := o.at_ i
  rw [getD_app_lt (by omega), getD_app_lt hi, hs] at sl
  obtain ⟨p, dx, vs, G, h1, h2, h3, h4, h5⟩ := sl
  have sw := o.at_ σ.length
  rw [getD_app_ge (Nat.le_refl _), Nat.sub_self, getD_app_ge (by omega), ← hl, Nat.sub_self] at sw
  have pw : PartAt K Z H v w (F σ.length) := part_at sw
  have ndi := o.nd i
  rw [h2] at ndi
  have hne : i ≠ σ.length := by omega
  obtain ⟨vs', G', e1, t, m, n'⟩ := TpAt.put (f := f) pw h5 (List.nodup_cons.mp (List.nodup_cons.mp ndi).2).2 (o.nd _) fun a ha hg => hne (o.dj i _ a (by rw [h2]; simp [hg]) ha)
  have inF : ∀ a ∈ G', a ∈ F i ∨ a ∈ F σ.length := fun a ha => (m a ha).imp (fun h => by rw [h2]; simp [h]) id
  have pG : p ∉ G' := fun h => by
    rcases m p h with h | h
    · exact (List.nodup_cons.mp ndi).1 (by simp [h])
    · exact hne (o.dj i _ p (by rw [h2]; simp) h)
  have dG : dx ∉ G' := fun h => by
    rcases m dx h with h | h
    · exact (List.nodup_cons.mp (List.nodup_cons.mp ndi).2).1 h
    · exact hne (o.dj i _ dx (by rw [h2]; simp) h)
  have pd : dx ≠ p := fun e => (List.nodup_cons.mp ndi).1 (by rw [e]; simp)
  have pf := o.fr i p (by rw [h2]; simp)
  refine ⟨p, dx, vs, h1, h3, by rw [h5.length, List.length_map], fun b x e => ?_, fun b x e => ?_, r.zy, r.yt, by rw [List.length_set]; exact hl, fun j => if j = i then p :: dx :: G' else if j < σ.length then F j else [], fun j => ?_, fun j => ?_, fun j k a ha ha' => ?_, fun j a ha => ?_⟩
  · rw [upd_ne (fun z => by rw [z, pf.1] at e; cases e)]; exact r.zh b x e
  · rw [upd_ne (fun z => by rw [z, pf.2] at e; cases e)]; exact r.yh b x e
  · by_cases hj : j = i
    · subst hj
      rw [if_pos rfl, getD_set_self hi]
      refine ⟨p, dx, vs', G', h1, rfl, by rw [upd_same, e1], by rw [upd_ne pd]; exact h4, t.other pG⟩
    · rw [if_neg hj, getD_set_ne (Ne.symm hj)]
      by_cases hlt : j < σ.length
      · rw [if_pos hlt]
        have q := o.at_ j
        rw [getD_app_lt hlt, getD_app_lt (by omega)] at q
        refine q.mono (Same.refl _) fun b hb ob e => ?_
        rw [upd_ne]
        · exact e
        · rintro rfl
          exact hj (o.dj j i b hb (by rw [h2]; simp))
      · rw [if_neg hlt, getD_out (l := s) (by omega)]
        exact rfl
  · by_cases hj : j = i
    · rw [if_pos hj]
      exact List.nodup_cons.mpr ⟨fun h => by
        rcases List.mem_cons.mp h with h | h
        · exact pd h.symm
        · exact pG h, List.nodup_cons.mpr ⟨dG, n'⟩⟩
    · rw [if_neg hj]
      by_cases hlt : j < σ.length
      · rw [if_pos hlt]; exact o.nd j
      · rw [if_neg hlt]; exact .nil
  · have own : ∀ j, a ∈ (if j = i then p :: dx :: G' else if j < σ.length then F j else []) → (j = i ∧ (a ∈ F i ∨ a ∈ F σ.length)) ∨ (j ≠ i ∧ j < σ.length ∧ a ∈ F j) := fun j h => by
      by_cases hj : j = i
      · rw [if_pos hj] at h
        refine .inl ⟨hj, ?_⟩
        rcases List.mem_cons.mp h with rfl | h
        · exact .inl (by rw [h2]; simp)
        · rcases List.mem_cons.mp h with rfl | h
          · exact .inl (by rw [h2]; simp)
          · exact inF a h
      · rw [if_neg hj] at h
        by_cases hlt : j < σ.length
        · rw [if_pos hlt] at h; exact .inr ⟨hj, hlt, h⟩
        · rw [if_neg hlt] at h; cases h
    rcases own j ha with ⟨e1, h1⟩ | ⟨e1, l1, h1⟩ <;> rcases own k ha' with ⟨e2, h2'⟩ | ⟨e2, l2, h2'⟩
    · rw [e1, e2]
    · rcases h1 with h1 | h1
      · exact absurd (o.dj _ _ a h2' h1) e2
      · have := o.dj _ _ a h2' h1; omega
    · rcases h2' with h2' | h2'
      · exact absurd (o.dj _ _ a h1 h2') e1
      · have := o.dj _ _ a h1 h2'; omega
    · exact o.dj _ _ a h1 h2'
  · by_cases hj : j = i
    · rw [if_pos hj] at ha
      rcases List.mem_cons.mp ha with rfl | ha
      · exact pf
      · rcases List.mem_cons.mp ha with rfl | ha
        · exact o.fr i _ (by rw [h2]; simp)
        · rcases inF a ha with h | h
          · exact o.fr _ a h
          · exact o.fr _ a h
    · rw [if_neg hj] at ha
      by_cases hlt : j < σ.length
      · rw [if_pos hlt] at ha; exact o.fr j a ha
      · rw [if_neg hlt] at ha; cases ha
theorem Rel.fieldL (r : Rel K Z Y H σ s) {i : Nat} {fs : List (Str × PV)} (hs : s.getD i .no = .ob c fs) (hk : getP f fs = some (.l xs)) : ∃ (p dx : Addr) (fl : List (Str × V)) (q : Addr) (us : List V), σ.getD i none = some (.ref p) ∧ H p = some (.ins (He.ga K c) dx fl) ∧ fl.lookup f = some (.ref q) ∧ H q = some (.lst us) ∧ us.length ≤ sizeLine ∧ RpAll K Z us xs ∧
    ∀ us' xs', us'.length ≤ sizeLine → RpAll K Z us' xs' → Rel K Z Y (upd H q (.lst us')) σ (s.set i (.ob c (putP f (.l xs') fs))) := by
  obtain ⟨F, o⟩ := r.own
  have sl := o.at_ i
  rw [hs] at sl
  obtain ⟨p, dx, vs, G, h1, h2, h3, h4, h5⟩ := sl
  have ndi := o.nd i
  rw [h2] at ndi
  obtain ⟨q, us, k1, k2, k3, k4, k5, k6⟩ := h5.fieldL (f := f) (List.nodup_cons.mp (List.nodup_cons.mp ndi).2).2 hk
  have hi : i < s.length := by
    by_cases h : i < s.length
    · exact h
    · rw [getD_out (by omega)] at hs; cases hs
  have qi : q ∈ F i := by rw [h2]; simp [k2]
  have qf := o.fr i q qi
  have qp : q ≠ p := fun e => (List.nodup_cons.mp ndi).1 (by rw [← e]; simp [k2])
  have qd : q ≠ dx := fun e => (List.nodup_cons.mp (List.nodup_cons.mp ndi).2).1 (by rw [← e]; exact k2)
  refine ⟨p, dx, _, q, us, h1, h3, k1, k3, k4, k5, fun us' xs' hl ra => ⟨fun b x e => ?_, fun b x e => ?_, r.zy, r.yt, by rw [List.length_set]; exact r.len, F, fun j => ?_, o.nd, o.dj, o.fr⟩⟩
  · rw [upd_ne (fun z => by rw [z, qf.1] at e; cases e)]; exact r.zh b x e
  · rw [upd_ne (fun z => by rw [z, qf.2] at e; cases e)]; exact r.yh b x e
  · by_cases hj : i = j
    · subst hj
      rw [getD_set_self hi]
      refine ⟨p, dx, vs, G, h1, h2, ?_, by rw [upd_ne (Ne.symm qd)]; exact h4, (k6 us' xs' hl ra).1⟩
      rw [upd_ne (Ne.symm qp), (k6 us' xs' hl ra).2]
      exact h3
    · rw [getD_set_ne hj]
      refine (o.at_ j).mono (Same.refl _) fun b hb ob e => ?_
      rw [upd_ne]
      · exact e
      · rintro rfl
        exact hj (o.dj i j b qi hb)
end
/-! ### fields read -/
def fFld (c : Str) (i : Nat) (f : Str) : FE := fun _ s Q => obAt c (s.getD i .no) (fun fs => match getP f fs with | some (.d x) => Q (.d x) s | _ => False) (fun kvs => match kvLook f kvs with | some x => Q (.d x) s | none => False)
/-- o.f[x], the field's list its object's own -/
def fFldIx (c : Str) (i : Nat) (f : Str) (j : Nat) : FE := fun _ s Q => onFL c i f s fun _ xs => match s.getD j .no with
  | .d (.int n) => (match L2.atI xs n with | some x => Q (.d x) s | none => False)
  | _ => False
/-! ### fields stored -/
def toPV (r : R) (s : S) (k : PV → S → Prop) : Prop := match r with
  | .own (.l xs) => k (.l xs) s
  | .own (.dc kvs) => k (.dc kvs) s
  | r => frz r s fun x s1 => k (.d x) s1
def fSetF (c : Str) (i : Nat) (f : Str) (a : FE) : FS := fun E s => a E.xx s fun r s1 => toPV r s1 fun w s2 => onOb c i s2 fun fs => fs.length < 1000 ∧ E.nx (s2.set i (.ob c (putP f w fs)))
/-- o.f[x] = e -/
def fSetFI (c : Str) (i : Nat) (f : Str) (j : Nat) (a : FE) : FS := fun E s => a E.xx s fun r s1 => frz r s1 fun d s2 => onFL c i f s2 fun fs xs => match s2.getD j .no with
  | .d (.int n) => 0 ≤ n ∧ n.toNat < xs.length ∧ E.nx (s2.set i (.ob c (putP f (.l (xs.set n.toNat d)) fs)))
  | _ => False
/-- o.f.m(x) -/
def fLmF (c : Str) (i : Nat) (f : Str) (g : LM) (j : Nat) : FE := fun X s Q => fVar j X s fun r s1 => frz r s1 fun d s2 => onFL c i f s2 fun fs xs => g xs [d] fun x xs' => Q (.d x) (s2.set i (.ob c (putP f (.l xs') fs)))
theorem toPV_ok {K : PySem.W.Frag} {Z Y H : Hp} {σ : St} {s : S} {v : V} {r : R} {k : PV → S → Prop} (rx : RelX K Z Y H σ s [v] [r]) (h : toPV r s k) : ∃ Z' w s', Same Z Z' ∧ Rel K Z' Y H (σ ++ [some v]) (s' ++ [PV.sv w]) ∧ σ.length = s'.length ∧ k w s' := by
  have go : (frz r s fun x s1 => k (.d x) s1) → ∃ Z' w s', Same Z Z' ∧ Rel K Z' Y H (σ ++ [some v]) (s' ++ [PV.sv w]) ∧ σ.length = s'.length ∧ k w s' := fun h => by
    obtain ⟨Z1, d, s1, hz, rx1, h1⟩ := frz_ok (us := []) (ds := []) (vs := []) (rs := []) rx rfl h
    exact ⟨Z1, .d d, s1, hz, rx1.rel, rx1.l1, h1⟩
  unfold toPV at h
  split at h
  · exact ⟨Z, .l _, s, Same.refl _, rx.rel, rx.l1, h⟩
  · exact ⟨Z, .dc _, s, Same.refl _, rx.rel, rx.l1, h⟩
  · exact go h
theorem var_ok {K : PySem.W.Frag} {Z Y H : Hp} {σ : St} {s : S} {j : Nat} {Xf : XF} {Qf : R → S → Prop} (r : Rel K Z Y H σ s) (h : fVar j Xf s Qf) : ∃ v q, σ.getD j none = some v ∧ RelX K Z Y H σ s [v] [q] ∧ Qf q s := by
  obtain ⟨F, sl⟩ := r.slot j
  unfold fVar at h
  generalize hs : s.getD j .no = w at h sl
  have tp : ∀ p : V, σ.getD j none = some p → Qf (.top j) s → ∃ v q, σ.getD j none = some v ∧ RelX K Z Y H σ s [v] [q] ∧ Qf q s := fun p e h => ⟨p, .top j, e, .tp r (getD_lt e) e, h⟩
  cases w with
  | no => exact h.elim
  | d x =>
    obtain ⟨_, u, h2, rp⟩ := sl
    exact ⟨u, .d x, h2, .d r rp, h⟩
  | l xs => obtain ⟨p, vs, h1, _⟩ := sl; exact tp _ h1 h
  | ll xs => obtain ⟨p, vs, h1, _⟩ := sl; exact tp _ h1 h
  | dc xs => obtain ⟨p, h1, _⟩ := sl; exact tp _ h1 h
  | ob c fs => obtain ⟨p, dx, vs, G, h1, _⟩ := sl; exact tp _ h1 h
  | tp ws => obtain ⟨p, vs, h1, _⟩ := sl; exact tp _ h1 h
theorem lift_var {X : Cx} {L : Lv} {j : Nat} {σ : St} {H : Hp} {Q : VK} (h : liftE X L (fVar j) σ H Q) : tVar j σ H Q := by
  obtain ⟨Z, Y, s, Xf, Qf, r, k, xo, h, q⟩ := h
  obtain ⟨v, q', hv, rx, h1⟩ := var_ok r h
  exact ⟨v, getD_some hv, q v H Z q' s (Same.refl _) rx h1⟩
section
variable {X : Cx} {L : Lv} {e a b c' o : Expr} {es : List Expr} {fa fb fc fj fx : FE} {ft : FT} {fr : FA} {pos p px : Pos} {c f y z : Str} {pz : Pos}
theorem pf_fld (i : Nat) (cl : Cls X.K (He.ga X.K c)) (na : NoAttr X.K (He.ga X.K c) f) (ho : PE X (.Name y px) (tVar i)) (hb : attributeBase (.Name y px) f X.env (eval (.Name y px) X.env) = eval (.Name y px) X.env := by rfl) : PF X L (.Attribute (.Name y px) f pos) (fFld c i f) :=
  PE_imp (pe_fld ho hb) fun σ H Q ⟨Z, Y, s, Xf, Qf, r, k, xo, h, q⟩ => by
  obtain ⟨p, dx, fl, h1, h2, h3⟩ := r.obj h
  have : ∃ v, fl.lookup f = some v ∧ Q v H := by
    rcases h3 with ⟨fs, vs, G, _, rfl, t, h⟩ | ⟨kvs, t, h⟩
    · generalize eg : getP f fs = g at h
      match g, h with
      | some (.d x), h =>
        obtain ⟨v, F, e1, pa⟩ := t.field eg
        exact ⟨v, e1, q v H Z _ s (Same.refl _) (.d r pa.2) h⟩
    · generalize eg : kvLook f kvs = g at h
      match g, h with
      | some x, h =>
        obtain ⟨v, e1, rp⟩ := t.field eg
        exact ⟨v, e1, q v H Z _ s (Same.refl _) (.d r rp) h⟩
  obtain ⟨v, hv, hq⟩ := this
  exact ⟨.ref p, getD_some h1, p, _, dx, fl, v, rfl, h2, cl, na, hv, hq⟩
theorem Rel.int {K : PySem.W.Frag} {Z Y H : Hp} {σ : St} {s : S} {j : Nat} {n : Int} (r : Rel K Z Y H σ s) (e : s.getD j .no = .d (.int n)) : σ.getD j none = some (.int n) := by
  obtain ⟨F, sl⟩ := r.slot j
  rw [e] at sl
  obtain ⟨_, u, h1, rp⟩ := sl
  cases rp
  exact h1
theorem pf_fldIx (i j : Nat) (cl : Cls X.K (He.ga X.K c)) (na : NoAttr X.K (He.ga X.K c) f) (ho : PE X (.Name y px) (tVar i)) (hj : PE X (.Name z pz) (tVar j)) (hb : attributeBase (.Name y px) f X.env (eval (.Name y px) X.env) = eval (.Name y px) X.env := by rfl) : PF X L (.Subscript (.Attribute (.Name y px) f pos) (.Name z pz) p) (fFldIx c i f j) :=
  PE_imp (pe_ix (ix_list (X := X)) (pe_fld ho hb) hj fun _ _ => rfl) fun σ H Q ⟨Z, Y, s, Xf, Qf, r, k, xo, h, q⟩ => by
  obtain ⟨fs, xs, e1, e2, h⟩ := onFL_ok h
  obtain ⟨p, dx, fl, q0, us, h1, h2, h3, h4, h5, h6, _⟩ := r.fieldL e1 e2
  generalize ej : s.getD j .no = w at h
  split at h
  · rename_i n
    generalize ex : L2.atI xs n = o at h
    match o, h with
    | some x, h =>
      have hx : ∃ v, L2.atI us n = some v ∧ Rp X.K Z v x := by
        unfold L2.atI at ex ⊢
        rw [h6.length]
        cases ei : L2.ixN xs.length n with
        | none => rw [ei] at ex; cases ex
        | some i0 =>
          rw [ei] at ex
          exact h6.get ex
      obtain ⟨v, ev, rv⟩ := hx
      exact ⟨.ref p, getD_some h1, p, _, dx, fl, .ref q0, rfl, h2, cl, na, h3, .int n, getD_some (r.int ej), q0, us, n, v, rfl, rfl, .inl (.inl h4), ev, q v H Z _ s (Same.refl _) (.d r rv) h⟩
  · exact h.elim
theorem pfs_setF (i : Nat) {po : Pos} (cl : Cls X.K (He.ga X.K c)) (na : NoAttr X.K (He.ga X.K c) f) (he : PF X L e fa) (ho : PE X (.Name y px) (tVar i)) (hs : swapsWith e (some (.Attribute (.Name y px) f po)) pos.line X.env = pure false := by rfl) : PFS X L (.Assign [.Attribute (.Name y px) f po] e pos) (fSetF c i f fa) :=
  PS_imp (ps_fld ho he hs) fun D σ H ⟨Z, Y, s, Ef, r, k, h, eo⟩ => by
  refine ⟨Z, Y, s, Ef.xx, _, r, k, eo.xx, h, fun v H1 Z1 r1 s1 hz rx h1 => ?_⟩
  obtain ⟨Z2, w, s2, hz2, r2, l2, h2⟩ := toPV_ok rx h1
  obtain ⟨fs, e1, hl, h3⟩ := onOb_ok h2
  obtain ⟨p, dx, vs, g1, g2, g3, g4⟩ := Rel.putF (f := f) r2 l2 e1
  refine ⟨.ref p, getD_some g1, p, _, dx, _, rfl, g2, cl, na, ?_, eo.nx σ _ Z2 _ (hz.trans hz2) k g4 h3⟩
  rw [List.length_zip, List.length_map]
  omega
theorem pfs_setFI (i j : Nat) {po pf : Pos} (cl : Cls X.K (He.ga X.K c)) (na : NoAttr X.K (He.ga X.K c) f) (he : PF X L e fa) (ho : PE X (.Name y px) (tVar i)) (hj : PE X (.Name z pz) (tVar j))
    (hb : attributeBase (.Name y px) f X.env (eval (.Name y px) X.env) = eval (.Name y px) X.env := by rfl)
    (ha : ∀ v, assign (.Subscript (.Attribute (.Name y px) f pf) (.Name z pz) po) X.env v = (do
      let ov ← holding [v] (eval (.Attribute (.Name y px) f pf) X.env)
      let iv ← holding [v, ov] (eval (.Name z pz) X.env)
      standAt po
      holding [v, ov, iv] (setItem ov iv v)
      release [v, ov, iv] []) := by intro _; rfl) (hs : swapsWithSole [.Subscript (.Attribute (.Name y px) f pf) (.Name z pz) po] e pos.line X.env = pure false := by rfl) (hw : swappedStores [.Subscript (.Attribute (.Name y px) f pf) (.Name z pz) po] e X.env = pure none := by rfl)
    (h1 : (assignEach [.Subscript (.Attribute (.Name y px) f pf) (.Name z pz) po] X.env).map (·.2) = [assign (.Subscript (.Attribute (.Name y px) f pf) (.Name z pz) po) X.env] := by rfl) : PFS X L (.Assign [.Subscript (.Attribute (.Name y px) f pf) (.Name z pz) po] e pos) (fSetFI c i f j fa) :=
  PS_imp (ps_asg he (pg_sub (pe_fld ho hb) hj set_list ha) hs hw h1) fun D σ H ⟨Z, Y, s, Ef, r, k, h, eo⟩ => by
  refine ⟨Z, Y, s, Ef.xx, _, r, k, eo.xx, h, fun v H1 Z1 r1 s1 hz rx h1 => ?_⟩
  obtain ⟨Z2, d, s2, hz2, rx2, h2⟩ := frz_ok (us := []) (ds := []) (vs := []) (rs := []) rx rfl h1
  obtain ⟨fs, xs, e1, e2, h3⟩ := onFL_ok h2
  obtain ⟨p, dx, fl, q0, us, g1, g2, g3, g4, g5, g6, wr⟩ := rx2.rel0.fieldL e1 e2
  generalize ej : s2.getD j .no = w at h3
  split at h3
  · rename_i n
    obtain ⟨h0, hlt, h4⟩ := h3
    have w := wr (us.set n.toNat v) (xs.set n.toNat d) (by rw [List.length_set]; exact g5) (g6.set rx2.vd _)
    refine ⟨.ref p, getD_some g1, p, _, dx, fl, .ref q0, rfl, g2, cl, na, g3, .int n, getD_some (rx2.rel0.int ej), q0, us, n, n.toNat, rfl, rfl, g4, ?_, eo.nx σ _ Z2 _ (hz.trans hz2) k w h4⟩
    unfold ixN
    rw [if_pos h0, if_pos (by rw [g6.length]; omega)]
  · exact h3.elim
variable {nm : Str} {apos cpos : Pos} {id : String}
theorem pf_lmF (i j : Nat) {g : LM} {pf : Pos} (cl : Cls X.K (He.ga X.K c)) (na : NoAttr X.K (He.ga X.K c) f) (slot : Slot "list" nm id) (hty : typeOf (.builtin id) = pure (.type "method_descriptor")) (hm : MtR X id (rLm X.K g)) (ho : PE X (.Name y px) (tVar i)) (hj : PE X (.Name z pz) (tVar j))
    (hb : attributeBase (.Name y px) f X.env (eval (.Name y px) X.env) = eval (.Name y px) X.env := by rfl)
    (hbase : attributeBase (.Attribute (.Name y px) f pf) nm X.env (eval (.Attribute (.Name y px) f pf) X.env) = eval (.Attribute (.Name y px) f pf) X.env := by rfl)
    (hfew : ((backTo cpos (starEach [.Name z pz] X.env)).all (fun x => !x.1) && (backToKw cpos (keywordEach [] X.env)).all (fun x => x.1.isSome)
      && decide (([.Name z pz] : List Expr).length + ([] : List Keyword).length + (if ([] : List Keyword).isEmpty then 0 else 1) < 30)) = true := by rfl)
    (hline : (apos.endLine == cpos.line) = true := by rfl) (hs : starEach [.Name z pz] X.env = (false, eval (.Name z pz) X.env) :: starEach [] X.env := by rfl) (hplain : (backTo cpos (starEach [] X.env)).any (·.1) = false := by rfl) :
    PF X L (.Call (.Attribute (.Attribute (.Name y px) f pf) nm apos) [.Name z pz] [] cpos) (fLmF c i f g j) :=
  PE_imp (pe_bm PySem.F.plainAttrs_list slot hty hm (pe_fld ho hb) (pa_cons hj pa_nil hs) hbase hfew hline hs hplain) fun σ H Q h => by
  obtain ⟨Z, Y, s, Xf, Qf, r, k, xo, h, q⟩ := h
  obtain ⟨v, r1, hv, rx, h1⟩ := var_ok r h
  obtain ⟨Z2, d, s2, hz2, rx2, h2⟩ := frz_ok (us := []) (ds := []) (vs := []) (rs := []) rx rfl h1
  obtain ⟨fs, xs, e1, e2, h3⟩ := onFL_ok h2
  obtain ⟨p, dx, fl, q0, us, g1, g2, g3, g4, g5, g6, wr⟩ := rx2.rel0.fieldL e1 e2
  exact ⟨.ref p, getD_some g1, p, _, dx, fl, .ref q0, rfl, g2, cl, na, g3, .inl ⟨rfl, us, .inl (.inl g4)⟩, v, getD_some hv, Z2, q0, us, xs, [d], _, rfl, g4, g5, g6, rx2.rel0.zh, .cons rx2.vd .nil, h3, fun u d' vs2 xs2 hq ru hl2 ra2 => q u _ Z2 _ _ hz2 (.d (wr vs2 xs2 hl2 ra2) ru) hq⟩
end
/-! ### a tuple whose parts are its own, read at once -/
def fIxP (k : Nat) (a : FE) : FE := fun X s Q => a X s fun r s1 => match r with
  | .own (.tp ws) => (match ws[k]? with | some (.d x) => Q (.d x) s1 | _ => False)
  | _ => False
theorem TpAt.dpart {K : PySem.W.Frag} {Z H : Hp} {x : D} : ∀ {vs : List V} {ws : List PV} {F : List Addr} {k : Nat}, TpAt K Z H vs ws F → ws[k]? = some (.d x) → ∃ v, vs[k]? = some v ∧ Rp K Z v x
  | _, _, _, _, .nil, e => by simp at e
  | _, _, _, 0, .cons h t, e => by
    simp only [List.getElem?_cons_zero, Option.some.injEq] at e
    subst e
    exact ⟨_, rfl, h.2⟩
  | _, _, _, k + 1, .cons h t, e => TpAt.dpart (k := k) t (by simpa using e)
theorem pf_ixP {X : Cx} {L : Lv} {e : Expr} {fa : FE} {p1 p2 : Pos} {j : Nat} (k : Nat) (he : PF X L e fa) : PF X L (.Subscript e (.Constant (.int (k : Int)) j p1) p2) (fIxP k fa) :=
  PE_imp (pe_ix (ix_tup (X := X)) he pe_int fun _ _ => rfl) fun σ H Q ⟨Z, Y, s, Xf, Qf, r, kk, xo, h, q⟩ => by
  refine ⟨Z, Y, s, Xf, _, r, kk, xo, h, fun v H1 Z1 r1 s1 hz rx h1 => ?_⟩
  split at h1
  · rename_i ws
    split at h1
    · rename_i x ex
      obtain ⟨F, sl⟩ := rx.rel.slot σ.length
      rw [getD_app_ge (Nat.le_refl _), Nat.sub_self, getD_app_ge (by have := rx.l1; omega), ← rx.l1, Nat.sub_self] at sl
      obtain ⟨p, vs, e1, e2, e3, t⟩ := sl
      cases e1
      obtain ⟨u, hu, ru⟩ := t.dpart ex
      exact ⟨p, vs, (k : Int), u, rfl, rfl, tupSq (rx.rel0.zh _ _ e2), L2.atI_nat hu, q u H1 Z1 _ s1 hz (.d rx.rel0 ru) h1⟩
    · exact h1.elim
  · exact h1.elim
/-! ### methods -/
def isOb (c m : Str) (sv : SV) : Prop := obAt c sv (fun fs => getP m fs = none) (fun kvs => kvLook m kvs = none)
def fMeth (c m : Str) (i : Nat) (sem : FSem) (ms : List Bool) (a : FA) : FE := fun X s Q => isOb c m (s.getD i .no) ∧ fCall sem ms (fCons (fVar i) a) X s Q
/-- C(..) -/
def fMake (c : Str) (sem : FSem) (ms : List Bool) (a : FA) : FE := fun X s Q => a X s fun rs s1 => bindA ms rs s1 fun svs s2 => sem (.ob c [] :: svs) (fun n fin => X n (putB ms rs fin.tail s2)) fun r fin => match r, fin with
  | .d .none, w :: fin' => Q (.own w) (putB ms rs fin' s2)
  | _, _ => False
def tMethSD (C : Addr) (m : Str) (sp : Sp) (E : St → XK) (ta : TE) (t : TA) : TE := fun σ H Q => ta σ H fun x H1 => ∃ a dx fs, x = .ref a ∧ H1 a = some (.ins C dx fs) ∧ fs.lookup m = none ∧
  t σ H1 fun vs H2 => sp (x :: vs) H2 Q (E σ)
def tMakeSD (C : Addr) (sp : Sp) (E : St → XK) (t : TA) : TE := fun σ H Q => t σ H fun vs H1 => ∀ x dx, H1 x = none → H1 dx = none → dx ≠ x →
  sp (.ref x :: vs) (upd (upd H1 dx (.own x)) x (.ins C dx [])) (fun v H2 => v = .non ∧ Q (.ref x) H2) (E σ)
section
variable {X : Cx} {CX : CXT} {k : Nat} {f C : Addr} {fd : FuncData} {ps : List Str} {sp : Sp} {E : St → XK} {x m : Str} {p pos apos : Pos} {e o : Expr} {es : List Expr} {ta : TE} {t : TA}
theorem pe_methSD {pl : Sem Bool} (he : PE X o ta) (c : Cls X.K C) (hm : Meth X.K C m f) (F : FnOk X.prog X.w X.K X.mg X.base CX k f fd ps sp) (hr : Room k X.A) (hb : Binds X.K fd ps []) (hx : ∀ σ, PassesAt CX X σ (E σ)) (ha : PA X (e :: es) t)
    (hst : starEach (e :: es) X.env = (false, eval e X.env) :: starEach es X.env := by rfl) (hpl : (backTo pos (starEach es X.env)).any (·.1) = false := by rfl)
    (ht : eval (.Call (.Attribute o m apos) (e :: es) [] pos) X.env = (do
      let ov ← eval o X.env
      standAt apos.atName
      let (f, first) ← holding [ov] (getMethod ov m pl)
      callWith pos f first (backTo pos (starEach (e :: es) X.env)) (backToKw pos (keywordEach [] X.env))) := by rfl) :
    PE X (.Call (.Attribute o m apos) (e :: es) [] pos) (tMethSD C m sp E ta t) := by
  refine ⟨fun pins s σ H Q I h => ?_⟩
  refine PySem.W.methodCall_KW (pl := pl) (thn (he.run pins s σ H _ I h) fun u s1 ⟨x, H1, I1, rx, a, dx, fs, ex, ea, l, q⟩ => ?_) ht
  subst ex
  obtain rfl : u = Value.ref a := rx
  refine getmeth_ok I1 ea c hm l ?_
  refine PySem.W.callWith_K (first := [.ref a]) (h₀ := X.base) I.ok.mod.kin hm.kp (thn (ha.run pos pins s1 σ H1 _ I1 q) fun us s2 ⟨vs, H2, I2, r, q2⟩ => ⟨I2.kIn, ?_⟩) hst hpl
  exact run_fnSD (dvs := []) (us := .ref a :: us) (vs := .ref a :: vs) F hr hb .nil (hx σ) I2 (.cons rfl r) (by simpa using q2)
theorem pe_methSD0 {pl : Sem Bool} (he : PE X o ta) (c : Cls X.K C) (hm : Meth X.K C m f) (F : FnOk X.prog X.w X.K X.mg X.base CX k f fd ps sp) (hr : Room k X.A) (hb : Binds X.K fd ps []) (hx : ∀ σ, PassesAt CX X σ (E σ))
    (ht : eval (.Call (.Attribute o m apos) [] [] pos) X.env = (do
      let ov ← eval o X.env
      standAt apos.atName
      let (f, first) ← holding [ov] (getMethod ov m pl)
      callWith pos f first (backTo pos (starEach [] X.env)) (backToKw pos (keywordEach [] X.env))) := by rfl) :
    PE X (.Call (.Attribute o m apos) [] [] pos) (tMethSD C m sp E ta tNil) := by
  refine ⟨fun pins s σ H Q I h => ?_⟩
  refine PySem.W.methodCall_KW (pl := pl) (thn (he.run pins s σ H _ I h) fun u s1 ⟨x, H1, I1, rx, a, dx, fs, ex, ea, l, q⟩ => ?_) ht
  subst ex
  obtain rfl : u = Value.ref a := rx
  refine getmeth_ok I1 ea c hm l ?_
  exact PySem.W.callWith_K0 (first := [.ref a]) I1.kIn hm.kp (run_fnSD (dvs := []) (us := [.ref a]) (vs := [.ref a]) F hr hb .nil (hx σ) I1 (.cons rfl .nil) q)
theorem run_makeSD {pins : List (Addr × Obj)} {σ : St} {H : Hp} {s : Shared} {Q : VK} {us : List Value} {vs : List V} {E : XK} (M : Mk X.K C f) (F : FnOk X.prog X.w X.K X.mg X.base CX k f fd ps sp) (hr : Room (k + 1) X.A) (hb : Binds X.K fd ps [])
    (hx : PassesAt CX X σ E) (I : Inv X pins σ H s) (r : Vals vs us)
    (h : ∀ x dx, H x = none → H dx = none → dx ≠ x → sp (.ref x :: vs) (upd (upd H dx (.own x)) x (.ins C dx [])) (fun v H2 => v = .non ∧ Q (.ref x) H2) E) :
    wpAny (model X.prog X.w) X.A (call (.ref C) us) (EP X pins σ Q) X.xe s := by
  have hq := h (s.heap.objs.size + 1) s.heap.objs.size (I.hok.fresh (Nat.le_succ _)) (I.hok.fresh (Nat.le_refl _)) (Nat.ne_of_lt (Nat.lt_succ_self _))
  have I2 := Inv.made (C := C) I
  have r2 : Vals (V.ref (s.heap.objs.size + 1) :: vs) (Value.ref (s.heap.objs.size + 1) :: us) := .cons rfl r
  have hl : ((Value.ref (s.heap.objs.size + 1) :: us) ++ []).length = ps.length := by
    have e := r2.length
    rw [F.len _ _ _ _ hq] at e
    rw [List.append_nil]
    exact e.symm
  have bb := hb _ (Value.ref (s.heap.objs.size + 1) :: us) I2.kIn hl
  rw [List.append_nil] at bb
  refine wpAny_call (make_map (f := f) I.kIn M.makes M.init (beq_iff_eq.mp M.fn) (codeAny_mono (F.run _ X.stack _ _ ⟨Value.ref (s.heap.objs.size + 1) :: us, []⟩ (Value.ref (s.heap.objs.size + 1) :: us) _ _ E (hr.make C us [])
    (I2.env0.make C us []) bb r2 hq) fun r s' hq' => ?_))
  cases r with
  | error e => exact hx pins _ _ e s' I2 hq'
  | ok fl =>
    cases fl with
    | ret u =>
      obtain ⟨v, H', I3, rv, ev, q3⟩ := I2.after hq'
      subst ev
      exact ⟨rv, ⟨V.ref (s.heap.objs.size + 1), H', I3, rfl, q3⟩⟩
    | next => exact False.elim hq'
    | brk => exact False.elim hq'
    | cont => exact False.elim hq'
theorem pe_makeSD (M : Mk X.K C f) (F : FnOk X.prog X.w X.K X.mg X.base CX k f fd ps sp) (hr : Room (k + 1) X.A) (hg : Gl X x) (hm : X.mg x = some (.ref C)) (hb : Binds X.K fd ps []) (hx : ∀ σ, PassesAt CX X σ (E σ))
    (ha : PA X (e :: es) t) (hdb : (x == ("__debug__" : Str)) = false := by decide) (he : starEach (e :: es) X.env = (false, eval e X.env) :: starEach es X.env := by rfl) (hpl : (backTo pos (starEach es X.env)).any (·.1) = false := by rfl) :
    PE X (.Call (.Name x p) (e :: es) [] pos) (tMakeSD C sp E t) := by
  refine ⟨fun pins s σ H Q I h => ?_⟩
  refine wpAny_Call_Name_kw (ld_glob I hg hm ?_ hdb)
  refine PySem.W.callWith_K (h₀ := X.base) I.ok.mod.kin M.kp (thn (ha.run pos pins s σ H _ I h) fun us s1 ⟨vs, H1, I1, r, q⟩ => ⟨I1.kIn, ?_⟩) he hpl
  exact run_makeSD M F hr hb (hx σ) I1 r q
theorem pe_makeSD0 (M : Mk X.K C f) (F : FnOk X.prog X.w X.K X.mg X.base CX k f fd ps sp) (hr : Room (k + 1) X.A) (hg : Gl X x) (hm : X.mg x = some (.ref C)) (hb : Binds X.K fd ps []) (hx : ∀ σ, PassesAt CX X σ (E σ))
    (hdb : (x == ("__debug__" : Str)) = false := by decide) : PE X (.Call (.Name x p) [] [] pos) (tMakeSD C sp E tNil) := by
  refine ⟨fun pins s σ H Q I h => ?_⟩
  refine wpAny_Call_Name_kw (ld_glob I hg hm ?_ hdb)
  exact PySem.W.callWith_K0 I.kIn M.kp (run_makeSD (us := []) M F hr hb (hx σ) I .nil h)
end
section
variable {X : Cx} {L : Lv} {e o : Expr} {es : List Expr} {fa : FE} {fr : FA} {pos p px apos : Pos} {c m y x : Str} {sem : FSem} {ms : List Bool} {k : Nat} {f : Addr} {fd : FuncData} {ps : List Str}
theorem cons_split {n : Nat} {σ : St} {H : Hp} {Q : List V → Hp → Prop} (h : liftA X L (n + 1) (fCons fa fr) σ H Q) : liftE X L fa σ H fun v H1 => liftA X L n fr σ H1 fun vs H2 => Q (v :: vs) H2 := by
  obtain ⟨Z, Y, s, Xf, Qf, r, k, xo, h, q⟩ := h
  refine ⟨Z, Y, s, Xf, _, r, k, xo, h, fun v H1 Z1 r1 s1 hz rx h1 => ?_⟩
  obtain ⟨Y', hy, rl, bk, fw⟩ := rx.frame
  refine ⟨Z1, Y', s1, Xf, _, rl, k, (xo.z hz).mono (Same.refl _) bk, h1, fun vs H2 Z2 rs s2 hz2 rx2 hn h2 => ?_⟩
  exact q (v :: vs) H2 Z2 (r1 :: rs) s2 (hz.trans hz2) (fw Z2 H2 s2 vs rs hz2 rx2) (by rw [List.length_cons, hn]) h2
theorem fMeth_ok {n i : Nat} {σ : St} {H : Hp} {Q : VK} (hn : ms.length = n + 1) (h : liftE X L (fMeth c m i sem ms fr) σ H Q) :
    tMethSD (He.ga X.K c) m (liftSp X.K X.mg (ioOf ms) (n + 1) sem) (fun σ cls d H => L.E cls d σ H) (tVar i) (liftA X L n fr) σ H Q := by
  obtain ⟨Z, Y, s, Xf, Qf, r, k, xo, ⟨h0, h⟩, q⟩ := h
  obtain ⟨p, dx, fl, g1, g2, g3⟩ := r.obj h0
  have nl : fl.lookup m = none := by
    rcases g3 with ⟨fs, vs, G, _, rfl, t, h⟩ | ⟨kvs, t, h⟩
    · exact t.nofield h
    · exact t.nofield h
  have h2 : liftE X L (fCall sem ms (fCons (fVar i) fr)) σ H Q := ⟨Z, Y, s, Xf, Qf, r, k, xo, h, q⟩
  obtain ⟨v, hv, h4⟩ := lift_var (cons_split (fCall_ok hn h2))
  have ev : v = .ref p := by
    rw [getD_some g1] at hv
    cases hv; rfl
  subst ev
  refine ⟨.ref p, hv, p, dx, fl, rfl, g2, nl, ?_⟩
  simpa using h4
theorem pf_meth {pl : Sem Bool} (i : Nat) (cl : Cls X.K (He.ga X.K c)) (hm : Meth X.K (He.ga X.K c) m f) (F : FnOk X.prog X.w X.K X.mg X.base (L2.CX X.prog X.w) k f fd ps (liftSp X.K X.mg (ioOf ms) (es.length + 2) sem)) (hb : Binds X.K fd ps []) (hr : Room k X.A)
    (hx : ∀ σ, PassesAt (L2.CX X.prog X.w) X σ (fun cls d H => L.E cls d σ H)) (ho : PE X (.Name y px) (tVar i)) (ha : PFA X L (e :: es) fr) (hn : ms.length = es.length + 2 := by rfl)
    (hst : starEach (e :: es) X.env = (false, eval e X.env) :: starEach es X.env := by rfl) (hpl : (backTo pos (starEach es X.env)).any (·.1) = false := by rfl)
    (ht : eval (.Call (.Attribute (.Name y px) m apos) (e :: es) [] pos) X.env = (do
      let ov ← eval (.Name y px) X.env
      standAt apos.atName
      let (f, first) ← holding [ov] (getMethod ov m pl)
      callWith pos f first (backTo pos (starEach (e :: es) X.env)) (backToKw pos (keywordEach [] X.env))) := by rfl) :
    PF X L (.Call (.Attribute (.Name y px) m apos) (e :: es) [] pos) (fMeth c m i sem ms fr) :=
  PE_imp (pe_methSD (pl := pl) ho cl hm F hr hb hx ha hst hpl ht) fun σ H Q h => fMeth_ok (n := es.length + 1) hn h
theorem pf_meth0 {pl : Sem Bool} (i : Nat) (cl : Cls X.K (He.ga X.K c)) (hm : Meth X.K (He.ga X.K c) m f) (F : FnOk X.prog X.w X.K X.mg X.base (L2.CX X.prog X.w) k f fd ps (liftSp X.K X.mg (ioOf ms) 1 sem)) (hb : Binds X.K fd ps []) (hr : Room k X.A)
    (hx : ∀ σ, PassesAt (L2.CX X.prog X.w) X σ (fun cls d H => L.E cls d σ H)) (ho : PE X (.Name y px) (tVar i)) (hn : ms.length = 1 := by rfl)
    (ht : eval (.Call (.Attribute (.Name y px) m apos) [] [] pos) X.env = (do
      let ov ← eval (.Name y px) X.env
      standAt apos.atName
      let (f, first) ← holding [ov] (getMethod ov m pl)
      callWith pos f first (backTo pos (starEach [] X.env)) (backToKw pos (keywordEach [] X.env))) := by rfl) :
    PF X L (.Call (.Attribute (.Name y px) m apos) [] [] pos) (fMeth c m i sem ms fNil) :=
  PE_imp (pe_methSD0 (pl := pl) ho cl hm F hr hb hx ht) fun σ H Q h => by
  obtain ⟨x, hx1, a, dx, fs, e1, e2, e3, h⟩ := fMeth_ok (n := 0) hn h
  refine ⟨x, hx1, a, dx, fs, e1, e2, e3, ?_⟩
  obtain ⟨Z, Y, s, Xf, Qf, r, k, xo, h, q⟩ := h
  exact q [] H Z [] s (Same.refl _) (.nil r) rfl h
/-! ### new objects -/
theorem ioOf_tail {k : Nat} (h : k ∈ ioOf ms) : k + 1 ∈ ioOf (true :: ms) := by
  unfold ioOf at h ⊢
  obtain ⟨h1, h2⟩ := List.mem_filter.mp h
  exact List.mem_filter.mpr ⟨List.mem_range.mpr (by rw [List.length_cons]; have := List.mem_range.mp h1; omega), by simpa using h2⟩
theorem ioOf_zero : 0 ∈ ioOf (true :: ms) := by
  unfold ioOf
  exact List.mem_filter.mpr ⟨List.mem_range.mpr (by simp), by simp⟩
theorem fMake_ok {n : Nat} {σ : St} {H : Hp} {Q : VK} (hn : ms.length = n) (h : liftE X L (fMake c sem ms fr) σ H Q) :
    tMakeSD (He.ga X.K c) (liftSp X.K X.mg (ioOf (true :: ms)) (n + 1) sem) (fun σ cls d H => L.E cls d σ H) (liftA X L n fr) σ H Q := by
  obtain ⟨Z, Y, s, Xf, Qf, r, k, xo, h, q⟩ := h
  refine ⟨Z, Y, s, Xf, _, r, k, xo, h, fun vs H1 Z1 rs s1 hz rx hrn h1 x dx hx hdx hne => ?_⟩
  obtain ⟨Z2, svs, s2, hz2, r2, hls, hlv, hlm, h2⟩ := bindA_ok (us := []) (ds := []) (vs := vs) (by simpa using rx.rel) rx.l1 rfl rx.l2 rx.top h1
  simp only [List.nil_append] at r2
  have hσ : σ.length = s2.length := by rw [hls]; exact rx.l1
  have hts : (vs.map some).length = svs.length := by rw [List.length_map, hlv]
  have hvn : vs.length = n := by rw [rx.l2, hrn]
  -- the new object
  let H2 := upd (upd H1 dx (.own x)) x (.ins (He.ga X.K c) dx [])
  have s12 : Same H1 H2 := fun a ob e => by
    show upd (upd H1 dx (.own x)) x _ a = _
    rw [upd_ne (ne_of_none e hx), upd_ne (ne_of_none e hdx)]
    exact e
  have r3 : Rel X.K Z2 Y H2 (σ ++ vs.map some ++ [some (.ref x)]) (s2 ++ svs ++ [.ob c []]) := r2.push (F := [x, dx]) s12 (Same.refl _) (r2.zh.trans s12) (fun _ _ => rfl)
    ⟨x, dx, [], [], rfl, rfl, upd_same, by show upd (upd H1 dx (.own x)) x _ dx = _; rw [upd_ne hne, upd_same], .nil⟩ (by simp [Ne.symm hne]) (fun a ha => by
      rcases List.mem_cons.mp ha with rfl | ha
      · exact ⟨hx, r2.zh.free hx⟩
      · obtain rfl : a = dx := by simpa using ha
        exact ⟨hdx, r2.zh.free hdx⟩)
  have r4 := Rel.swap r3 hσ hts
  have r5 : Rel X.K Z2 Y H2 ([] ++ ([some (.ref x)] ++ vs.map some) ++ σ) ([] ++ ([.ob c []] ++ svs) ++ s2) := Rel.swap (σa := []) (sa := []) (by simpa using r4) rfl hσ
  simp only [List.nil_append] at r5
  have hl5 : ([some (.ref x)] ++ vs.map some : St).length = ([.ob c []] ++ svs : S).length := by simp [hlv]
  obtain ⟨Y', hy', r6, back, _⟩ := r5.frame hl5
  refine ⟨Z2, Y', .ob c [] :: svs, _, _, by simp [hvn], r6, h2, fun u H' Z' σ' fin r' hz' keep hl' rx' nt hq => ?_, fun n' C H' Z' σ' fin hz' keep hl' r' hx' m => ?_⟩
  · split at hq
    · rename_i w fin'
      have b := back Z' H' _ _ hz' rx'.rel
      have lf : σ'.length = (w :: fin').length := rx'.l1
      obtain ⟨t0, σt, rfl⟩ : ∃ t0 σt, σ' = t0 :: σt := by
        cases σ' with
        | nil => simp at hl'
        | cons a1 b1 => exact ⟨a1, b1, rfl⟩
      have et : t0 = some (.ref x) := by simpa using keep 0 ioOf_zero
      subst et
      have lt : σt.length = fin'.length := by simpa using lf
      have eu : u = .non := by
        have := rx'.vd
        cases this; rfl
      refine ⟨eu, ?_⟩
      -- the answer falls away; the object goes behind
      have b1 : Rel X.K Z' Y H' ([some (.ref x)] ++ σt ++ σ) ([w] ++ fin' ++ s2) := by
        have b0 : Rel X.K Z' Y H' (([some (.ref x)] ++ σt) ++ [some u] ++ σ) (([w] ++ fin') ++ [svR (.d .none)] ++ s2) := by simpa using b
        exact (Rel.swap b0 (by simp [lt]) rfl).take (by simp [lt, hσ])
      have b2 : Rel X.K Z' Y H' ([] ++ (σt ++ σ) ++ [some (.ref x)]) ([] ++ (fin' ++ s2) ++ [w]) := Rel.swap (σa := []) (sa := []) (by simpa using b1) rfl rfl
      have b3 : Rel X.K Z' Y H' (σt ++ [some (.ref x)] ++ σ) (fin' ++ [w] ++ s2) := Rel.swap (by simpa using b2) lt hσ
      have b4 := back_ok (ms := ms) (rs := rs) (vs := vs) b3 hσ lt rfl (fun k hk => by simpa using keep (k + 1) (ioOf_tail hk)) rx.l2 rx.top (by rw [← lt]; simpa [hvn] using hl')
      exact q (.ref x) H' Z' (.own w) _ ((hz.trans hz2).trans hz') (.own (by rw [putB_len]; exact hσ) b4) hq
    · exact hq.elim
  · have b := back Z' H' _ _ hz' r'
    have lf : σ'.length = fin.length := r'.len
    obtain ⟨t0, σt, rfl⟩ : ∃ t0 σt, σ' = t0 :: σt := by
      cases σ' with
      | nil => simp at hl'
      | cons a1 b1 => exact ⟨a1, b1, rfl⟩
    obtain ⟨w, fin', rfl⟩ : ∃ t0 σt, fin = t0 :: σt := by
      cases fin with
      | nil => simp at lf
      | cons a1 b1 => exact ⟨a1, b1, rfl⟩
    have lt : σt.length = fin'.length := by simpa using lf
    have b2 : Rel X.K Z' Y H' ([] ++ (σt ++ σ) ++ [t0]) ([] ++ (fin' ++ s2) ++ [w]) := Rel.swap (σa := []) (sa := []) (by simpa using b) rfl rfl
    have b3 : Rel X.K Z' Y H' (σt ++ σ) (fin' ++ s2) := Rel.take (by simpa using b2) (by simp [lt, hσ])
    have b4 := back_ok (ts := []) (us := []) (ms := ms) (rs := rs) (vs := vs) (by simpa using b3) hσ lt rfl (fun k hk => by simpa using keep (k + 1) (ioOf_tail hk)) rx.l2 rx.top (by rw [← lt]; simpa [hvn] using hl')
    simp only [List.append_nil] at b4
    exact xo n' C Z' H' σ _ ((hz.trans hz2).trans hz') k b4 hx' m
theorem pf_make (M : Mk X.K (He.ga X.K c) f) (F : FnOk X.prog X.w X.K X.mg X.base (L2.CX X.prog X.w) k f fd ps (liftSp X.K X.mg (ioOf (true :: ms)) (es.length + 2) sem)) (hr : Room (k + 1) X.A) (hm : X.mg c = some (.ref (He.ga X.K c))) (hb : Binds X.K fd ps [])
    (hx : ∀ σ, PassesAt (L2.CX X.prog X.w) X σ (fun cls d H => L.E cls d σ H)) (ha : PFA X L (e :: es) fr) (hn : ms.length = es.length + 1 := by rfl) (hg : Gl X c := by rfl) (hdb : (c == ("__debug__" : Str)) = false := by decide) (he : starEach (e :: es) X.env = (false, eval e X.env) :: starEach es X.env := by rfl) (hpl : (backTo pos (starEach es X.env)).any (·.1) = false := by rfl) :
    PF X L (.Call (.Name c p) (e :: es) [] pos) (fMake c sem ms fr) := PE_imp (pe_makeSD M F hr hg hm hb hx ha hdb he hpl) fun σ H Q h => fMake_ok hn h
theorem pf_make0 (M : Mk X.K (He.ga X.K c) f) (F : FnOk X.prog X.w X.K X.mg X.base (L2.CX X.prog X.w) k f fd ps (liftSp X.K X.mg (ioOf [true]) 1 sem)) (hr : Room (k + 1) X.A) (hm : X.mg c = some (.ref (He.ga X.K c))) (hb : Binds X.K fd ps [])
    (hx : ∀ σ, PassesAt (L2.CX X.prog X.w) X σ (fun cls d H => L.E cls d σ H)) (hg : Gl X c := by rfl) (hdb : (c == ("__debug__" : Str)) = false := by decide) :
    PF X L (.Call (.Name c p) [] [] pos) (fMake c sem [] fNil) := PE_imp (pe_makeSD0 M F hr hg hm hb hx hdb) fun σ H Q h => by
  obtain ⟨Z, Y, s, Xf, Qf, r, k, xo, h, q⟩ := fMake_ok (n := 0) rfl h
  exact q [] H Z [] s (Same.refl _) (.nil r) rfl h
end
/-! ### a class's methods by names -/
/-- a method of the text -/
def Dm (P : Program) (w : World) (K : PySem.W.Frag) (mg : Str → Option Value) (base : Heap) (c m : Str) (k : Nat) (ps : List Str) (ms : List Bool) (sem : FSem) : Prop :=
  ∃ fd, FnOk P w K mg base (L2.CX P w) k (He.ma K (He.ga K c) m) fd ps (liftSp K mg (ioOf ms) ps.length sem) ∧ Binds K fd ps []
abbrev mOf (c m q : Str) (st : Stmt) : He.DefD := ⟨(c, some m), m, q, defArgs st, defBody st, defScope st, [], []⟩
section
variable {P : Program} {w : World} {K : PySem.W.Frag} {mg : Str → Option Value} {base : Heap} {fa : List He.Fa} {fn : List He.DefD}
theorem TxOk.cls (T : TxOk fa fn K mg base) (i : Nat) {x : Str} (h : fa[i]? = some (.cls x) := by rfl) : Cls K (He.ga K x) := He.cls_ok (T.c.fact i h)
theorem TxOk.noat (T : TxOk fa fn K mg base) (i : Nat) {x f : Str} (h : fa[i]? = some (.noat x f) := by rfl) : NoAttr K (He.ga K x) f := He.noat_ok (T.c.fact i h)
theorem TxOk.meth (T : TxOk fa fn K mg base) (i : Nat) {x m : Str} (h : fa[i]? = some (.meth x m) := by rfl) : Meth K (He.ga K x) m (He.ma K (He.ga K x) m) := He.meth_ok (T.c.fact i h)
theorem TxOk.mkr (T : TxOk fa fn K mg base) (i : Nat) {x : Str} (h : fa[i]? = some (.mkr x) := by rfl) : Mk K (He.ga K x) (He.ma K (He.ga K x) "__init__") := He.mkr_ok (T.c.fact i h)
theorem dmOk (T : TxOk fa fn K mg base) {c m q : Str} {st : Stmt} {N ps : List Str} {ms : List Bool} {bd : FS} {k : Nat} (i : Nat) (sco : FnScope N ps (defScope st)) (hnp : ps.length ≤ N.length)
    (hbi : ∀ (kV doc pm : Value) (an : Option Addr) (cdv ct : Value) (us : List Value), us.length = ps.length → bindArgs (PySem.W.fnOf m q (defArgs st) (defBody st) (defScope st) .none kV doc pm an cdv ct) ⟨us, []⟩ = pure (ps.zip us))
    (hb : ∀ (f : Addr) (cdv : Value) (A : Around) (outer : List Env) (s : Shared) (H : Hp) (vs : List V) (E : XK), Room k (A.deeper (envOfC q (defScope st) s.heap.objs.size f cdv)) →
      PFSs (cxOf (L2.CX P w) P w K mg base N q (defScope st) f cdv A outer s H E) ⟨fun cls d _ H => E cls d H, ioOf ms, L2.start N vs⟩ (defBody st) bd)
    (h : fn[i]? = some (mOf c m q st) := by rfl) : Dm P w K mg base c m (k + 1) ps ms (semOf ps.length N.length bd) := by
  obtain ⟨fd, F⟩ := T.c.def_ i h
  exact ⟨fd, okF (funOf F) sco hnp fun cdv A outer s H vs E hr => hb _ cdv A outer s H vs E hr, F.bindsN hbi⟩
variable {X : Cx} {L : Lv} {e a b : Expr} {es : List Expr} {fr : FA} {pos p px apos : Pos} {c m y : Str} {ps : List Str} {ms : List Bool} {k : Nat} {sem : FSem}
theorem pf_callM {pl : Sem Bool} (i : Nat) (D : Dm X.prog X.w X.K X.mg X.base c m k ps ms sem) (cl : Cls X.K (He.ga X.K c)) (hm : Meth X.K (He.ga X.K c) m (He.ma X.K (He.ga X.K c) m)) (hr : Room k X.A)
    (hx : ∀ σ, PassesAt (L2.CX X.prog X.w) X σ (fun cls d H => L.E cls d σ H)) (ho : PE X (.Name y px) (tVar i)) (ha : PFA X L (e :: es) fr) (hl : ps.length = es.length + 2 := by rfl) (hn : ms.length = es.length + 2 := by rfl)
    (hst : starEach (e :: es) X.env = (false, eval e X.env) :: starEach es X.env := by rfl) (hpl : (backTo pos (starEach es X.env)).any (·.1) = false := by rfl)
    (ht : eval (.Call (.Attribute (.Name y px) m apos) (e :: es) [] pos) X.env = (do
      let ov ← eval (.Name y px) X.env
      standAt apos.atName
      let (f, first) ← holding [ov] (getMethod ov m pl)
      callWith pos f first (backTo pos (starEach (e :: es) X.env)) (backToKw pos (keywordEach [] X.env))) := by rfl) :
    PF X L (.Call (.Attribute (.Name y px) m apos) (e :: es) [] pos) (fMeth c m i sem ms fr) := by
  obtain ⟨fd, F, bi⟩ := D
  rw [hl] at F
  exact pf_meth (pl := pl) i cl hm F bi hr hx ho ha hn hst hpl ht
theorem pf_callM0 {pl : Sem Bool} (i : Nat) (D : Dm X.prog X.w X.K X.mg X.base c m k ps ms sem) (cl : Cls X.K (He.ga X.K c)) (hm : Meth X.K (He.ga X.K c) m (He.ma X.K (He.ga X.K c) m)) (hr : Room k X.A)
    (hx : ∀ σ, PassesAt (L2.CX X.prog X.w) X σ (fun cls d H => L.E cls d σ H)) (ho : PE X (.Name y px) (tVar i)) (hl : ps.length = 1 := by rfl) (hn : ms.length = 1 := by rfl)
    (ht : eval (.Call (.Attribute (.Name y px) m apos) [] [] pos) X.env = (do
      let ov ← eval (.Name y px) X.env
      standAt apos.atName
      let (f, first) ← holding [ov] (getMethod ov m pl)
      callWith pos f first (backTo pos (starEach [] X.env)) (backToKw pos (keywordEach [] X.env))) := by rfl) :
    PF X L (.Call (.Attribute (.Name y px) m apos) [] [] pos) (fMeth c m i sem ms fNil) := by
  obtain ⟨fd, F, bi⟩ := D
  rw [hl] at F
  exact pf_meth0 (pl := pl) i cl hm F bi hr hx ho hn ht
theorem pf_mkC (D : Dm X.prog X.w X.K X.mg X.base c "__init__" k ps (true :: ms) sem) (M : Mk X.K (He.ga X.K c) (He.ma X.K (He.ga X.K c) "__init__")) (hm : X.mg c = some (.ref (He.ga X.K c))) (hr : Room (k + 1) X.A)
    (hx : ∀ σ, PassesAt (L2.CX X.prog X.w) X σ (fun cls d H => L.E cls d σ H)) (ha : PFA X L (e :: es) fr) (hl : ps.length = es.length + 2 := by rfl) (hn : ms.length = es.length + 1 := by rfl) (hg : Gl X c := by rfl) (hdb : (c == ("__debug__" : Str)) = false := by decide) (he : starEach (e :: es) X.env = (false, eval e X.env) :: starEach es X.env := by rfl) (hpl : (backTo pos (starEach es X.env)).any (·.1) = false := by rfl) :
    PF X L (.Call (.Name c p) (e :: es) [] pos) (fMake c sem ms fr) := by
  obtain ⟨fd, F, bi⟩ := D
  rw [hl] at F
  exact pf_make M F hr hm bi hx ha hn hg hdb he hpl
theorem pf_mkC0 (D : Dm X.prog X.w X.K X.mg X.base c "__init__" k ps [true] sem) (M : Mk X.K (He.ga X.K c) (He.ma X.K (He.ga X.K c) "__init__")) (hm : X.mg c = some (.ref (He.ga X.K c))) (hr : Room (k + 1) X.A)
    (hx : ∀ σ, PassesAt (L2.CX X.prog X.w) X σ (fun cls d H => L.E cls d σ H)) (hl : ps.length = 1 := by rfl) (hg : Gl X c := by rfl) (hdb : (c == ("__debug__" : Str)) = false := by decide) :
    PF X L (.Call (.Name c p) [] [] pos) (fMake c sem [] fNil) := by
  obtain ⟨fd, F, bi⟩ := D
  rw [hl] at F
  exact pf_make0 M F hr hm bi hx hg hdb
end
end Hs
/-! HsUp: a, b, c = e where e gives a tuple that keeps own things: its parts moved into slots. -/
namespace Hs
open PySem PySem.Spec PyProof.Rows L2
section
variable {K : PySem.W.Frag} {Z Y H : Hp} {σ : St} {s : S}
theorem slot_of_part {v : V} {w : PV} {F : List Addr} (h : PartAt K Z H v w F) : SlotAt K Z H (some v) w.sv F := by
  cases w with
  | d x => exact ⟨h.1, v, rfl, h.2⟩
  | l xs =>
    obtain ⟨p, vs, h1, h2, h3, h4, h5⟩ := h
    subst h1
    exact ⟨p, vs, rfl, h2, h3, h4, h5⟩
  | dc kvs =>
    obtain ⟨p, h1, h2, h3⟩ := h
    subst h1
    exact ⟨p, rfl, h2, h3⟩
theorem unpack0 : ∀ {vs : List V} {ws : List PV} {G : List Addr}, TpAt K Z H vs ws G → G.Nodup → ∃ F : Nat → List Addr, (∀ k, SlotAt K Z H ((vs.map some).getD k none) ((ws.map PV.sv).getD k .no) (F k)) ∧ (∀ k, (F k).Nodup) ∧ (∀ i j a, a ∈ F i → a ∈ F j → i = j) ∧ ∀ k a, a ∈ F k → a ∈ G
  | _, _, _, .nil, _ => ⟨fun _ => [], fun k => rfl, fun _ => .nil, fun _ _ _ h => (by cases h), fun _ _ h => (by cases h)⟩
  | _, _, _, .cons (F := F0) (G := G) hp t, nd => by
    obtain ⟨n1, n2, n3⟩ := List.nodup_append.mp nd
    obtain ⟨F, a1, a2, a3, a4⟩ := unpack0 t n2
    refine ⟨fun k => match k with | 0 => F0 | k + 1 => F k, fun k => ?_, fun k => ?_, fun i j a hi hj => ?_, fun k a h => ?_⟩
    · cases k with
      | zero => exact slot_of_part hp
      | succ k => exact a1 k
    · cases k with
      | zero => exact n1
      | succ k => exact a2 k
    · cases i with
      | zero =>
        cases j with
        | zero => rfl
        | succ j => exact (n3 a hi a (a4 j a hj) rfl).elim
      | succ i =>
        cases j with
        | zero => exact (n3 a hj a (a4 i a hi) rfl).elim
        | succ j => rw [a3 i j a hi hj]
    · cases k with
      | zero => exact List.mem_append_left _ h
      | succ k => exact List.mem_append_right _ (a4 k a h)
theorem Rel.unpack {v : Option V} {ws : List PV} (r : Rel K Z Y H (σ ++ [v]) (s ++ [.tp ws])) (hl : σ.length = s.length) : ∃ p vs, v = some (.ref p) ∧ Z p = some (.tup vs) ∧ vs.length ≤ sizeLine ∧ vs.length = ws.length ∧ Rel K Z Y H (σ ++ vs.map some) (s ++ ws.map PV.sv) := by
  obtain ⟨F, o⟩ := r.own
  have sl := o.at_ σ.length
  rw [getD_app_ge (Nat.le_refl _), Nat.sub_self, getD_app_ge (by omega), ← hl, Nat.sub_self] at sl
  obtain ⟨p, vs, e1, e2, e3, t⟩ := sl
  obtain ⟨G, a1, a2, a3, a4⟩ := unpack0 t (o.nd _)
  have tl := t.length
  refine ⟨p, vs, e1, e2, e3, tl, r.zh, r.yh, r.zy, r.yt, by simp [hl, tl], fun k => if k < σ.length then F k else G (k - σ.length), fun k => ?_, fun k => ?_, fun i j a hi hj => ?_, fun k a h => ?_⟩
  · by_cases h : k < σ.length
    · rw [if_pos h, getD_app_lt h, getD_app_lt (by omega)]
      have q := o.at_ k
      rw [getD_app_lt h, getD_app_lt (by omega)] at q
      exact q
    · rw [if_neg h, getD_app_ge (by omega), getD_app_ge (by omega), ← hl]
      exact a1 _
  · by_cases h : k < σ.length
    · rw [if_pos h]; exact o.nd k
    · rw [if_neg h]; exact a2 _
  · by_cases h1 : i < σ.length
    · rw [if_pos h1] at hi
      by_cases h2 : j < σ.length
      · rw [if_pos h2] at hj
        exact o.dj i j a hi hj
      · rw [if_neg h2] at hj
        have := o.dj i σ.length a hi (a4 _ a hj)
        omega
    · rw [if_neg h1] at hi
      by_cases h2 : j < σ.length
      · rw [if_pos h2] at hj
        have := o.dj σ.length j a (a4 _ a hi) hj
        omega
      · rw [if_neg h2] at hj
        have := a3 _ _ a hi hj
        omega
  · by_cases h1 : k < σ.length
    · rw [if_pos h1] at h; exact o.fr k a h
    · rw [if_neg h1] at h; exact o.fr _ a (a4 _ a h)
/-- the first of the things put aside goes into a slot -/
theorem Rel.takeO {v : Option V} {sv : SV} {us : St} {ts : S} {i : Nat} (r : Rel K Z Y H (σ ++ v :: us) (s ++ sv :: ts)) (hl : σ.length = s.length) : Rel K Z Y H (σ.set i v ++ us) (s.set i sv ++ ts) := by
  have len := r.len
  rw [List.length_append, List.length_append, List.length_cons, List.length_cons] at len
  refine r.re (fun k => if k < σ.length then (if k = i then some σ.length else some k) else some (k + 1)) (by rw [List.length_append, List.length_append, List.length_set, List.length_set]; omega) (fun k => ?_) fun k k' j e e' => ?_
  · by_cases h : k < σ.length
    · have a1 : (s.set i sv ++ ts).getD k .no = (s.set i sv).getD k .no := getD_app_lt (by rw [List.length_set]; omega)
      have a2 : (σ.set i v ++ us).getD k none = (σ.set i v).getD k none := getD_app_lt (by rw [List.length_set]; omega)
      by_cases hi : k = i
      · subst hi
        simp only [if_pos h, if_true]
        have a3 : (s ++ sv :: ts).getD σ.length .no = sv := by rw [getD_app_ge (by omega), hl, Nat.sub_self]; rfl
        have a4 : (σ ++ v :: us).getD σ.length none = v := by rw [getD_app_ge (Nat.le_refl _), Nat.sub_self]; rfl
        rw [a1, a2, a3, a4]
        exact ⟨getD_set_self (by omega), getD_set_self h⟩
      · simp only [if_pos h, if_neg hi]
        have a3 : (s ++ sv :: ts).getD k .no = s.getD k .no := getD_app_lt (by omega)
        have a4 : (σ ++ v :: us).getD k none = σ.getD k none := getD_app_lt h
        rw [a1, a2, a3, a4]
        exact ⟨getD_set_ne (fun e => hi e.symm), getD_set_ne (fun e => hi e.symm)⟩
    · simp only [if_neg h]
      have a1 : (s.set i sv ++ ts).getD k .no = ts.getD (k - s.length) .no := by rw [getD_app_ge (by rw [List.length_set]; omega), List.length_set]
      have a2 : (σ.set i v ++ us).getD k none = us.getD (k - σ.length) none := by rw [getD_app_ge (by rw [List.length_set]; omega), List.length_set]
      have a3 : (s ++ sv :: ts).getD (k + 1) .no = ts.getD (k - s.length) .no := by rw [getD_app_ge (by omega), show k + 1 - s.length = (k - s.length) + 1 by omega]; rfl
      have a4 : (σ ++ v :: us).getD (k + 1) none = us.getD (k - σ.length) none := by rw [getD_app_ge (by omega), show k + 1 - σ.length = (k - σ.length) + 1 by omega]; rfl
      rw [a1, a2, a3, a4]
      exact ⟨rfl, rfl⟩
  · by_cases h : k < σ.length
    · rw [if_pos h] at e
      by_cases h' : k' < σ.length
      · rw [if_pos h'] at e'
        split at e <;> split at e' <;> simp at e e' <;> omega
      · rw [if_neg h'] at e'
        split at e <;> simp at e e' <;> omega
    · rw [if_neg h] at e
      by_cases h' : k' < σ.length
      · rw [if_pos h'] at e'
        split at e' <;> simp at e e' <;> omega
      · rw [if_neg h'] at e'
        simp at e e'
        omega
end
/-- own things into slots, one after the other -/
def gO : List Nat → List SV → S → (S → Prop) → Prop
  | [], [], s, k => k s
  | i :: is, sv :: svs, s, k => gO is svs (s.set i sv) k
  | _, _, _, _ => False
theorem gO_len : ∀ {is : List Nat} {svs : List SV} {s : S} {k : S → Prop}, gO is svs s k → svs.length = is.length
  | [], [], _, _, _ => rfl
  | _ :: is, _ :: svs, s, k, h => by
    have h : gO is svs _ k := h
    rw [List.length_cons, List.length_cons, gO_len h]
def unpK (is : List Nat) (r : R) (s : S) (k : S → Prop) : Prop := match r with
  | .own (.tp ws) => gO is (ws.map PV.sv) s k
  | _ => False
def fUnpO (is : List Nat) (a : FE) : FS := fun E s => a E.xx s fun r s1 => unpK is r s1 E.nx
def liftGO (X : Cx) (L : Lv) (is : List Nat) : TGs := fun vs σ H Q => ∃ Z Y s svs Qf, Rel X.K Z Y H (σ ++ vs.map some) (s ++ svs) ∧ σ.length = s.length ∧ L.keeps σ ∧ gO is svs s Qf ∧ ∀ σ' s', L.keeps σ' → Rel X.K Z Y H σ' s' → Qf s' → Q σ' H
section
variable {X : Cx} {L : Lv} {e : Expr} {es : List Expr} {fa : FE} {pos : Pos}
def PGO (X : Cx) (L : Lv) (is : List Nat) (es : List Expr) : Prop := PGs X es (liftGO X L is)
theorem pgo_nil : PGO X L [] [] := PGs_imp pgs_nil fun vs σ H Q ⟨Z, Y, s, svs, Qf, r, hl, k, h, q⟩ => by
  cases svs with
  | cons _ _ => exact h.elim
  | nil =>
    have len := r.len
    rw [List.length_append, List.length_append, List.length_map, List.length_nil] at len
    have e : vs = [] := List.length_eq_zero_iff.mp (by omega)
    subst e
    rw [List.map_nil, List.append_nil, List.append_nil] at r
    exact ⟨rfl, q σ s k r h⟩
theorem pgo_cons {i : Nat} {x : Str} {p : Pos} {is : List Nat} (hN : X.N.Nodup) (h2 : PGO X L is es) (hi : X.N[i]? = some x := by rfl) (hx : Loc X.env.scope x := by first | exact Or.inl rfl | exact Or.inr rfl) (hio : i ∉ L.io := by exact of_decide_eq_true rfl) (hf : X.fn x = true ∨ X.env.scope.names.lookup x = some .local := by first | exact .inl rfl | exact .inr rfl)
    (hs : (assignEach (.Name x p :: es) X.env).map (·.2) = assign (.Name x p) X.env :: (assignEach es X.env).map (·.2) := by rfl) : PGO X L (i :: is) (.Name x p :: es) :=
  PGs_imp (pgs_cons (pg_name hN hi hx hf) h2 hs) fun vs σ H Q ⟨Z, Y, s, svs, Qf, r, hl, k, h, q⟩ => by
  cases svs with
  | nil => exact h.elim
  | cons sv svs =>
    have len := r.len
    rw [List.length_append, List.length_append, List.length_map, List.length_cons] at len
    cases vs with
    | nil => rw [List.length_nil] at len; omega
    | cons v vs =>
      exact ⟨v, vs, rfl, Z, Y, s.set i sv, svs, Qf, r.takeO hl, by rw [List.length_set, List.length_set]; exact hl, L.keeps_set k hio, h, q⟩
/-- a, b, c = e -/
theorem pfs_unpO {is : List Nat} {x1 : Nat} {p1 : Pos} (hc : X.calm = true) (he : PF X L e fa) (hg : PGO X L is es) (hn : (assignEach es X.env).length = is.length := by rfl) (hst : (assignEach es X.env).findIdx? (·.1) = none := by rfl) (hs : swapsWithSole [.Tuple es x1 p1] e pos.line X.env = pure false := by rfl) (hw : swappedStores [.Tuple es x1 p1] e X.env = pure none := by rfl)
    (h1 : (assignEach [.Tuple es x1 p1] X.env).map (·.2) = [assign (.Tuple es x1 p1) X.env] := by rfl) : PFS X L (.Assign [.Tuple es x1 p1] e pos) (fUnpO is fa) := PS_imp (ps_asg he (pg_tup hc hg hn hst) hs hw h1) fun D σ H ⟨Z, Y, s, Ef, r, k, h, eo⟩ => by
  refine ⟨Z, Y, s, Ef.xx, _, r, k, eo.xx, h, fun v H1 Z1 r1 s1 hz rx h1 => ?_⟩
  unfold unpK at h1
  split at h1
  · rename_i ws
    obtain ⟨p, vs, e1, e2, e3, e4, rl⟩ := rx.rel.unpack rx.l1
    cases e1
    have gl := gO_len h1
    rw [List.length_map] at gl
    exact ⟨p, vs, rfl, tupSq (rx.rel0.zh _ _ e2), by omega, Z1, Y, s1, _, _, rl, rx.l1, k, h1, fun σ' s' k' r' h' => eo.nx σ' H1 Z1 s' hz k' r' h'⟩
  · exact h1.elim
end
section
variable {X : XF} {s : S} {nx bk ct : S → Prop} {rt : R → S → Prop} {xx : XF}
theorem st_unpO {is : List Nat} {a : FE} (h : a xx s fun r s1 => unpK is r s1 nx) : fUnpO is a ⟨nx, rt, bk, ct, xx⟩ s := h
theorem st_unpK {is : List Nat} {ws : List PV} {k : S → Prop} (h : gO is (ws.map PV.sv) s k) : unpK is (.own (.tp ws)) s k := h
theorem st_gO_nil {k : S → Prop} (h : k s) : gO [] ([].map PV.sv) s k := h
theorem st_gO_d {i : Nat} {is : List Nat} {x : D} {ws : List PV} {k : S → Prop} (h : putR i (.d x) s fun s' => gO is (ws.map PV.sv) s' k) : gO (i :: is) ((.d x :: ws).map PV.sv) s k := h
theorem st_gO_l {i : Nat} {is : List Nat} {x : List D} {ws : List PV} {k : S → Prop} (h : putR i (.own (.l x)) s fun s' => gO is (ws.map PV.sv) s' k) : gO (i :: is) ((.l x :: ws).map PV.sv) s k := h
theorem st_gO_dc {i : Nat} {is : List Nat} {x : List (D × D)} {ws : List PV} {k : S → Prop} (h : putR i (.own (.dc x)) s fun s' => gO is (ws.map PV.sv) s' k) : gO (i :: is) ((.dc x :: ws).map PV.sv) s k := h
end
/-! ### one own list of a tuple, the rest dropped -/
def fIxO (k : Nat) (a : FE) : FE := fun X s Q => a X s fun r s1 => match r with
  | .own (.tp ws) => match ws[k]? with
    | some (.l xs) => Q (.own (.l xs)) s1
    | _ => False
  | _ => False
theorem pf_ixO {X : Cx} {L : Lv} {e : Expr} {fa : FE} {p1 p2 : Pos} {j : Nat} (k : Nat) (he : PF X L e fa) : PF X L (.Subscript e (.Constant (.int (k : Int)) j p1) p2) (fIxO k fa) :=
  PE_imp (pe_ix (ix_tup (X := X)) he pe_int fun _ _ => rfl) fun σ H Q ⟨Z, Y, s, Xf, Qf, r, kk, xo, h, q⟩ => by
  refine ⟨Z, Y, s, Xf, _, r, kk, xo, h, fun v H1 Z1 r1 s1 hz rx h1 => ?_⟩
  split at h1
  · rename_i ws
    split at h1
    · rename_i xs ex
      have l1 := rx.l1
      obtain ⟨p, vs, e1, e2, e3, e4, rl⟩ := rx.rel.unpack rx.l1
      cases e1
      have hk : k < ws.length := (List.getElem?_eq_some_iff.mp ex).1
      have hu : vs[k]? = some (vs[k]'(by omega)) := List.getElem?_eq_getElem (by omega)
      refine ⟨p, vs, (k : Int), vs[k]'(by omega), rfl, rfl, tupSq (rx.rel0.zh _ _ e2), L2.atI_nat hu, q _ H1 Z1 _ s1 hz (.own l1 ?_) h1⟩
      refine rl.re (fun i => if i < σ.length then some i else if i = σ.length then some (σ.length + k) else none) (by simp [l1]) (fun i => ?_) (fun i i' m h h' => ?_)
      · by_cases c : i < σ.length
        · simp only [if_pos c]
          exact ⟨by rw [getD_app_lt (by omega), getD_app_lt (by omega)], by rw [getD_app_lt c, getD_app_lt c]⟩
        · by_cases c2 : i = σ.length
          · subst c2
            simp only [Nat.lt_irrefl, if_false, if_true]
            refine ⟨?_, ?_⟩
            · rw [getD_app_ge (by omega), getD_app_ge (by omega), l1, Nat.sub_self, Nat.add_sub_cancel_left]
              show SV.l xs = (ws.map PV.sv).getD k .no
              rw [List.getD_eq_getElem?_getD, List.getElem?_map, ex]
              rfl
            · rw [getD_app_ge (Nat.le_refl _), getD_app_ge (by omega), Nat.sub_self, Nat.add_sub_cancel_left]
              show some (vs[k]'(by omega)) = (vs.map some).getD k none
              rw [List.getD_eq_getElem?_getD, List.getElem?_map, hu]
              rfl
          · simp only [if_neg c, if_neg c2]
            refine .inl (getD_out (by simp; omega))
      · by_cases c : i < σ.length
        · rw [if_pos c] at h
          by_cases c' : i' < σ.length
          · rw [if_pos c'] at h'
            cases h
            cases h'
            rfl
          · rw [if_neg c'] at h'
            split at h'
            · cases h
              simp at h'
              omega
            · cases h'
        · rw [if_neg c] at h
          split at h
          · rename_i c2
            by_cases c' : i' < σ.length
            · rw [if_pos c'] at h'
              cases h'
              simp at h
              omega
            · rw [if_neg c'] at h'
              split at h'
              · omega
              · cases h'
          · cases h
    · exact h1.elim
  · exact h1.elim
theorem st_ixO {k : Nat} {a : FE} {X : XF} {s : S} {Q : R → S → Prop} (h : a X s fun r s1 => match r with
  | .own (.tp ws) => (match ws[k]? with | some (.l xs) => Q (.own (.l xs)) s1 | _ => False)
  | _ => False) : fIxO k a X s Q := h
end Hs
namespace PySem.AutoSeq1
theorem list_extend_tup_any (l : Addr) (items : Array Value) (n : Nat) (b : Addr) (items2 : Array Value) (n2 : Nat) (o : Obj) (hc : o.cls = .type "tuple") (hd : o.data = .seq items2 n2) (hs0 : ¬(!items.isEmpty && Builtin.List.listTooLong (items.size + items2.size)) = true) (hs1 : items.size ≤ sizeLine) (hs2 : items.size + items2.size ≤ sizeLine + 1) :
    Meets (Builtin.«list.extend» ⟨[.ref l, .ref b], []⟩) (fun _ R s => s.heap.get? l = some { cls := .type "list", dict := none, data := .seq items n, slots := #[] } ∧ s.heap.get? b = some o ∧ R (.ok (.ret Value.none)) { s with heap := s.heap.update l (Obj.mapSeq fun x => x ++ items2), toks := s.toks }) :=
  .of_wp fun prog w A R s h => by
    obtain ⟨oc, od, oda, os'⟩ := o
    dsimp only at hc hd
    subst hc
    subst hd
    obtain ⟨hp, g, d, tk, os⟩ := s; obtain ⟨hl, hb, h⟩ := h; have f1 := idx_int; have f2 := sub_tuple_tuple; have f3 := sub_list_list; have f4 := sub_tuple_list; have f5 := sub_list_tuple;
    have hz' : (items ++ items2).size ≤ sizeLine + 1 := by rw [Array.size_append]; exact hs2
    wp_walk using (wpAny_updateSeq hl rfl (hz := hs1) (_hz' := hz')), wpAny_loadPart' hl, wpAny_loadPart' hb; exact ⟨_, rfl, h⟩
end PySem.AutoSeq1
namespace Hs
open PySem PySem.Spec PyProof.Rows L2
/-! ### xs.extend(a tuple) -/
theorem ext_tupL {X : Cx} {pins : List (Addr × Obj)} {s : Shared} {σ : St} {H : Hp} {l b : Addr} {xs zs : List V} {Q : VK} (I : Inv X pins σ H s) (hH : H l = some (.lst xs)) (hB : SqT X.K H b zs) (hz : xs.length + zs.length ≤ sizeLine) (q : Q .non (upd H l (.lst (xs ++ zs)))) :
    wpAny (model X.prog X.w) X.A (call (.builtin "list.extend") [.ref l, .ref b]) (EP X pins σ Q) X.xe s := by
  obtain ⟨z, its, n, r, hl, e⟩ := I.lstM hH
  obtain ⟨its2, r2, ⟨o2, ho2, hc2, n2, hd2⟩, hz2⟩ := I.tuple hB
  have hl2 := r2.length
  have hsz : its.toArray.size + its2.toArray.size ≤ sizeLine := by rw [List.size_toArray, List.size_toArray]; omega
  have hlong : ¬ (!its.toArray.isEmpty && Builtin.List.listTooLong (its.toArray.size + its2.toArray.size)) = true := by
    rw [notLongL hsz, Bool.and_false]
    exact Bool.false_ne_true
  refine call_meets F.slot_list_extend ⟨_, e, rfl⟩ F.entry_list_extend (F.args_list_extend_2 _ _)
    (AutoSeq1.list_extend_tup_any l its.toArray n b its2.toArray n2 o2 hc2 hd2 hlong (by rw [List.size_toArray]; omega) (by omega)) ⟨e, ho2, ?_⟩
  · refine ⟨.non, _, I.lset (its' := its ++ its2) hH e (by simp) (r.append r2) ?_, rfl, q⟩
    rw [List.length_append]
    omega
def mExtendT : LM := fun xs ds k => match ds with
  | [.list ys] => xs.length + ys.length ≤ sizeLine ∧ k .none (xs ++ ys)
  | [.tuple ys] => xs.length + ys.length ≤ sizeLine ∧ k .none (xs ++ ys)
  | _ => False
theorem fm_extendT {X : Cx} : MtR X "list.extend" (rLm X.K mExtendT) := by
  intro pins s σ H x us v vs Q I rx rv ⟨Z, p, ws, xs, ds, Qf, ex, hp, hl, ra, hz, rd, g, q⟩
  unfold mExtendT at g
  split at g
  · exact fm_extend pins s σ H x us v vs Q I rx rv ⟨Z, p, ws, xs, _, Qf, ex, hp, hl, ra, hz, rd, g, q⟩
  · cases rd with
    | cons r1 r2 =>
      cases r2
      subst ex
      cases rx
      cases r1 with
      | tup h z a =>
        obtain ⟨u, rfl, ru⟩ := rv.one
        cases ru
        have l1 := ra.length
        have l2 := a.length
        exact ext_tupL I hp (tupSq (hz _ _ h)) (by omega) (q _ _ _ _ g.2 .non (by rw [List.length_append]; omega) (ra.append a))
  · exact g.elim
theorem st_extendT {xs ys : List D} {kk : D → List D → Prop} (z : xs.length + ys.length ≤ sizeLine) (h : kk .none (xs ++ ys)) : mExtendT xs [.tuple ys] kk := ⟨z, h⟩
theorem st_extendL {xs ys : List D} {kk : D → List D → Prop} (z : xs.length + ys.length ≤ sizeLine) (h : kk .none (xs ++ ys)) : mExtendT xs [.list ys] kk := ⟨z, h⟩
end Hs
/-! HsDc: d.clear() of a slot's own dict; an own tuple's slot read and given up. -/
namespace L2
open PySem PySem.Spec PyProof.Rows
def rDcClr : V → List V → Hp → VK → Prop := fun x vs H Q => ∃ a : Addr, x = .ref a ∧ vs = [] ∧ ((∃ kvs, H a = some (.dK kvs) ∧ Q .non (upd H a (.dK []))) ∨ ∃ kvs, H a = some (.dT kvs) ∧ Q .non (upd H a (.dT [])))
theorem mtd_clear2 {X : Cx} : MtR X "dict.clear" rDcClr := by
  intro pins s σ H x vs v us Q I rx rv h
  obtain ⟨a, ex, ev, h⟩ := h
  rcases h with ⟨kvs, e, q⟩ | ⟨kvs, e, q⟩
  · exact mtd_clear pins s σ H x vs v us Q I rx rv ⟨a, kvs, ex, ev, e, q⟩
  · subst ex
    subst ev
    obtain rfl : v = Value.ref a := rx
    have hus := rv.zero
    subst hus
    obtain ⟨z, hd, xs', rel, o, es, ep, ho, hx, hdat, hes, _⟩ := dt_of I.hok e
    have hl : es.size ≤ sizeLine := by
      have := congrArg List.length hes
      rw [List.length_map, Array.length_toList, ← Paired.length rel] at this
      omega
    refine call_meetsIn PySem.F.slot_dict_clear (show s.heap.DictRaw a es ep from ⟨o, ho, hx, hdat⟩).typeIs PySem.F.entry_dict_clear (PySem.F.args_dict_clear_1 _) (meets_dict_clear_raw a) ⟨es, ep, ⟨o, ho, hx, hdat⟩, hl, fun h' hr' hs' => ?_⟩
    obtain ⟨o', ho', hx', hdat'⟩ := hr'
    exact ⟨.non, upd H a (.dT []), d_write (t' := s.toks) (ob := .dT []) I (by rw [e]; exact True.intro) hs' ⟨o', ho'⟩ ⟨Nat.zero_le _, hd, [], .nil, o', #[], ep + 1, ho', hx', hdat', rfl, .nil⟩, rfl, q⟩
end L2
namespace Hs
open PySem PySem.Spec PyProof.Rows L2
def emptyDc : List (D × D) → List (D × D)
  | (.none, .none) :: _ => [(.none, .none)]
  | _ => []
/-- d.clear() -/
def fDClr (i : Nat) : FE := fun X s Q => onDc i s fun kvs => Q (.d .none) (s.set i (.dc (emptyDc kvs)))
section
variable {X : Cx} {L : Lv} {y : Str} {px : Pos}
theorem pf_dclr (i : Nat) {apos cpos : Pos} (ho : PE X (.Name y px) (tVar i)) (hbase : attributeBase (.Name y px) "clear" X.env (eval (.Name y px) X.env) = eval (.Name y px) X.env := by rfl) (hline : (apos.endLine == cpos.line) = true := by rfl) :
    PF X L (.Call (.Attribute (.Name y px) "clear" apos) [] [] cpos) (fDClr i) := PE_imp (pe_bm0 PySem.F.plainAttrs_dict PySem.F.slot_dict_clear PySem.F.type_dict_clear mtd_clear2 ho hbase hline) fun σ H Q ⟨Z, Y, s, Xf, Qf, r, k, xo, h, q⟩ => by
  obtain ⟨kvs, e, h⟩ := onDc_ok h
  obtain ⟨p, hv, hd⟩ := r.slotDc e
  refine ⟨.ref p, getD_some hv, ?_, p, rfl, rfl, ?_⟩
  · rcases hd with ⟨ks, e1, _⟩ | ⟨ks, _, _, e1, _⟩
    · exact .inr (.inr (.inl ⟨rfl, .inl ⟨ks, e1⟩⟩))
    · exact .inr (.inr (.inl ⟨rfl, .inr ⟨ks, e1⟩⟩))
  · rcases hd with ⟨ks, e1, r1⟩ | ⟨ks, kvs', rfl, e1, r1⟩
    · refine .inl ⟨ks, e1, ?_⟩
      have e2 : emptyDc kvs = [] := by
        match kvs, r1 with
        | [], _ => rfl
        | (.none, .none) :: _, r1 => exact r1.mark.elim
        | (.none, .bool _) :: _, _ => rfl
        | (.none, .int _) :: _, _ => rfl
        | (.none, .str _) :: _, _ => rfl
        | (.none, .list _) :: _, _ => rfl
        | (.none, .tuple _) :: _, _ => rfl
        | (.none, .dict _) :: _, _ => rfl
        | (.bool _, _) :: _, _ => rfl
        | (.int _, _) :: _, _ => rfl
        | (.str _, _) :: _, _ => rfl
        | (.list _, _) :: _, _ => rfl
        | (.tuple _, _) :: _, _ => rfl
        | (.dict _, _) :: _, _ => rfl
      rw [e2] at h
      have w := r.writeDc (kvs' := []) (ob := .dK []) e hv (.inl ⟨[], upd_same, .nil⟩)
      exact q _ _ Z _ _ (Same.refl _) (.d w .non) h
    · refine .inr ⟨ks, e1, ?_⟩
      have w := r.writeDc (kvs' := [(.none, .none)]) (ob := .dT []) e hv (.inr ⟨[], [], rfl, upd_same, .nil⟩)
      exact q _ _ Z _ _ (Same.refl _) (.d w .non) h
/-- an own tuple's slot, given up -/
def fMov (i : Nat) : FE := fun X s Q => match s.getD i .no with
  | .tp ws => Q (.own (.tp ws)) (s.set i .no)
  | _ => False
theorem pf_mov (i : Nat) (ho : PE X (.Name y px) (tVar i)) : PF X L (.Name y px) (fMov i) := PE_imp ho fun σ H Q ⟨Z, Y, s, Xf, Qf, r, k, xo, h, q⟩ => by
  unfold fMov at h
  generalize ew : s.getD i .no = w at h
  cases w with
  | tp ws =>
    have len := r.len
    obtain ⟨F, sl⟩ := r.slot i
    rw [ew] at sl
    obtain ⟨p, vs, e1, e2, e3, t⟩ := sl
    refine ⟨.ref p, getD_some e1, q _ H Z _ _ (Same.refl _) (.own (by rw [List.length_set]; exact len) ?_) h⟩
    refine r.re (fun j => if j < s.length then (if j = i then none else some j) else if j = s.length then some i else none) (by simp [len]) (fun j => ?_) (fun j j' m h1 h2 => ?_)
    · by_cases c : j < s.length
      · by_cases c2 : j = i
        · subst c2
          simp only [if_pos c, if_true]
          refine .inl ?_
          rw [getD_app_lt (by rw [List.length_set]; exact c)]
          exact getD_set_self c
        · simp only [if_pos c, if_neg c2]
          refine ⟨?_, ?_⟩
          · rw [getD_app_lt (by rw [List.length_set]; exact c)]
            exact getD_set_ne (fun e => c2 e.symm)
          · rw [getD_app_lt (by omega)]
      · by_cases c2 : j = s.length
        · subst c2
          simp only [Nat.lt_irrefl, if_false, if_true]
          refine ⟨?_, ?_⟩
          · rw [getD_app_ge (by rw [List.length_set]; exact Nat.le_refl _), List.length_set, Nat.sub_self, ew]
            rfl
          · rw [getD_app_ge (by omega), len, Nat.sub_self, e1]
            rfl
        · simp only [if_neg c, if_neg c2]
          exact .inl (getD_out (by simp; omega))
    · by_cases c : j < s.length
      · rw [if_pos c] at h1
        split at h1
        · cases h1
        · rename_i n1
          cases h1
          by_cases c' : j' < s.length
          · rw [if_pos c'] at h2
            split at h2
            · cases h2
            · cases h2
              rfl
          · rw [if_neg c'] at h2
            split at h2
            · cases h2
              exact absurd rfl n1
            · cases h2
      · rw [if_neg c] at h1
        split at h1
        · rename_i c3
          cases h1
          by_cases c' : j' < s.length
          · rw [if_pos c'] at h2
            split at h2
            · cases h2
            · rename_i n2
              cases h2
              exact absurd rfl n2
          · rw [if_neg c'] at h2
            split at h2
            · omega
            · cases h2
        · cases h1
  | no => exact h.elim
  | d x => exact h.elim
  | l x => exact h.elim
  | ll x => exact h.elim
  | dc x => exact h.elim
  | ob c x => exact h.elim
end
section
variable {X : XF} {s : S} {Q : R → S → Prop}
theorem st_dclr {i : Nat} {kvs : List (D × D)} [g : Get s i (.dc kvs)] (h : Q (.d .none) (s.set i (.dc (emptyDc kvs)))) : fDClr i X s Q := by
  unfold fDClr onDc
  rw [g.e]
  exact h
theorem st_mov {i : Nat} {ws : List PV} [g : Get s i (.tp ws)] (h : Q (.own (.tp ws)) (s.set i .no)) : fMov i X s Q := by
  unfold fMov
  rw [g.e]
  exact h
end
end Hs
namespace Lk22
open PySem PySem.Spec PyProof.Rows L2 Hs
def topS (i : Nat) : Stmt := PySem.Challenge.pw_hueshare_k22_whole_hues_told.main.body.getD i (.Pass ⟨0, 0, 0, 0⟩)
abbrev s__law_adigit : Stmt := topS 26
abbrev s__law_aweb : Stmt := topS 28
abbrev s__law_acell : Stmt := topS 24
abbrev s__law_aweb_of : Stmt := topS 30
abbrev s__law_atape : Stmt := topS 25
abbrev s_is_whole : Stmt := topS 5
abbrev s_is_below : Stmt := topS 6
abbrev s_is_rising : Stmt := topS 8
abbrev s_is_tie : Stmt := topS 7
abbrev s_are_ties : Stmt := topS 9
abbrev s_is_web : Stmt := topS 10
abbrev s_need_web : Stmt := topS 11
abbrev s_all_sets : Stmt := topS 14
abbrev s_without : Stmt := topS 15
abbrev s_tied_in : Stmt := topS 12
abbrev s_first_parts : Stmt := topS 16
abbrev s_floors_in : Stmt := topS 17
abbrev s_hues_by : Stmt := topS 18
abbrev s_fewest_in : Stmt := topS 19
abbrev s_fewest : Stmt := topS 20
abbrev s__law_awhole : Stmt := topS 27
abbrev s__law_asets : Stmt := topS 29
abbrev s__law_aparts_of : Stmt := topS 31
abbrev s__law_aare_floors : Stmt := topS 32
abbrev s_are_hues : Stmt := topS 21
abbrev s_are_floors : Stmt := topS 22
abbrev s__law_aright : Stmt := topS 33
abbrev s_law : Stmt := topS 34
def fa0 : List He.Fa := [.glo "_law_adigit", .glo "_law_aweb", .glo "_law_acell", .glo "_law_aweb_of", .glo "_law_atape", .glo "is_whole", .glo "is_below", .glo "is_rising", .glo "is_tie", .glo "are_ties", .glo "is_web", .glo "need_web", .glo "all_sets", .glo "without", .glo "tied_in", .glo "first_parts", .glo "floors_in", .glo "hues_by", .glo "fewest_in", .glo "fewest", .glo "_law_awhole", .glo "_law_asets", .glo "_law_aparts_of", .glo "_law_aare_floors", .glo "are_hues", .glo "are_floors", .glo "_law_aright", .glo "law", .glo "NoWeb", .exc "NoWeb"]
def fa1 : List He.Fa := [.int "MOST_PLACES" 10, .free "range", .free "tuple", .free "len", .free "isinstance", .free "int", .free "bool", .free "all", .free "max", .free "min", .free "any", .free "dict", .free "sorted", .free "set", .free "list"]
def fa : List He.Fa := fa0 ++ fa1
def fn0 : List He.DefD := [dOf "_law_adigit" s__law_adigit, dOf "_law_aweb" s__law_aweb, dOf "_law_acell" s__law_acell, dOf "_law_aweb_of" s__law_aweb_of, dOf "_law_atape" s__law_atape, dOf "is_whole" s_is_whole, dOf "is_below" s_is_below, dOf "is_rising" s_is_rising, dOf "is_tie" s_is_tie, dOf "are_ties" s_are_ties, dOf "is_web" s_is_web, dOf "need_web" s_need_web, dOf "all_sets" s_all_sets, dOf "without" s_without, dOf "tied_in" s_tied_in, dOf "first_parts" s_first_parts, dOf "floors_in" s_floors_in, dOf "hues_by" s_hues_by, dOf "fewest_in" s_fewest_in, dOf "fewest" s_fewest, dOf "_law_awhole" s__law_awhole, dOf "_law_asets" s__law_asets, dOf "_law_aparts_of" s__law_aparts_of, dOf "_law_aare_floors" s__law_aare_floors, dOf "are_hues" s_are_hues, dOf "are_floors" s_are_floors, dOf "_law_aright" s__law_aright, dOf "law" s_law]
def fn : List He.DefD := fn0
def b__law_adigit : FS := fSeq (fAsg 2 (fOp opMod (fOp ixD2 (fVar 0) (fC (.int 0))) (fVar 1)))
    (fSeq (fSetIx 0 (fC (.int 0)) (fOp opFdiv (fOp ixD2 (fVar 0) (fC (.int 0))) (fVar 1)))
    (fRet (fVar 2)))
def m__law_adigit : FSem := semOf 2 3 b__law_adigit
def b__law_aweb : FS := fSeq (fAsg 2 (fCall m__law_adigit [true, false] (fCons (fVar 0) (fCons (fOp opAdd (fVar 1) (fC (.int 1))) (fNil)))))
    (fSeq (fAsg 3 (fOp opAdd (fC (.int 1)) (fCall m__law_adigit [true, false] (fCons (fVar 0) (fCons (fC (.int 5)) (fNil))))))
    (fSeq (fAsg 4 (fLst (fNil)))
    (fSeq (fFor (iRange1 (fCons (fVar 2) (fNil))) (gNm 5) [5, 6] (fFor (iRange2 (fCons (fOp opAdd (fVar 5) (fC (.int 1))) (fCons (fVar 2) (fNil)))) (gNm 6) [6] (fIfS (fB (fOp cLt (fCall m__law_adigit [true, false] (fCons (fVar 0) (fCons (fC (.int 6)) (fNil)))) (fVar 3))) (fDrop (fLm 4 mAppend (fCons (fTup (fCons (fVar 5) (fCons (fVar 6) (fNil)))) (fNil)))) (fNext))))
    (fRet (fTup (fCons (fVar 2) (fCons (fBlt bTuple (fCons (fVar 4) (fNil))) (fNil))))))))
def m__law_aweb : FSem := semOf 2 7 b__law_aweb
def b__law_acell : FS := fSeq (fIfS (fB (fOp cLt (fVar 1) (fBlt bLen (fCons (fVar 0) (fNil))))) (fRet (fOp ixD2 (fVar 0) (fVar 1))) (fNext))
    (fRet (fC (.int 0)))
def m__law_acell : FSem := semOf 2 2 b__law_acell
def b__law_aweb_of : FS := fSeq (fIfS (fOr (fB (fOp cGt (fVar 1) (fC (.int 0)))) (fB (fOp cNe (fOp opMod (fOp opFdiv (fCall m__law_acell [false, false] (fCons (fVar 0) (fCons (fC (.int 7)) (fNil)))) (fC (.int 2))) (fC (.int 8))) (fC (.int 5))))) (fRet (fCall m__law_aweb [true, false] (fCons (fVar 2) (fCons (fC (.int 7)) (fNil))))) (fNext))
    (fSeq (fAsg 3 (fOp opAdd (fC (.int 8)) (fCall m__law_adigit [true, false] (fCons (fVar 2) (fCons (fC (.int 3)) (fNil))))))
    (fSeq (fAsg 4 (fOp opAdd (fC (.int 3)) (fCall m__law_adigit [true, false] (fCons (fVar 2) (fCons (fC (.int 3)) (fNil))))))
    (fSeq (fAsg 5 (fLst (fNil)))
    (fSeq (fFor (iRange1 (fCons (fVar 3) (fNil))) (gNm 6) [6, 7] (fFor (iRange2 (fCons (fOp opAdd (fVar 6) (fC (.int 1))) (fCons (fVar 3) (fNil)))) (gNm 7) [7] (fIfS (fOr (fB (fOp cLt (fCall m__law_adigit [true, false] (fCons (fVar 2) (fCons (fC (.int 6)) (fNil)))) (fVar 4))) (fB (fOp cEq (fVar 7) (fOp opAdd (fVar 6) (fC (.int 1)))))) (fDrop (fLm 5 mAppend (fCons (fTup (fCons (fVar 6) (fCons (fVar 7) (fNil)))) (fNil)))) (fNext))))
    (fRet (fTup (fCons (fVar 3) (fCons (fBlt bTuple (fCons (fVar 5) (fNil))) (fNil)))))))))
def m__law_aweb_of : FSem := semOf 3 8 b__law_aweb_of
def b__law_atape : FS := fSeq (fAsg 2 (fCall m__law_acell [false, false] (fCons (fVar 0) (fCons (fVar 1) (fNil)))))
    (fSeq (fIfS (fB (fOp cEq (fOp opMod (fVar 2) (fC (.int 2))) (fC (.int 0)))) (fRet (fLst (fCons (fOp opFdiv (fVar 2) (fC (.int 2))) (fNil)))) (fNext))
    (fSeq (fAsg 3 (fC (.int 2305843009213693951)))
    (fSeq (fAsg 4 (fC (.int 0)))
    (fSeq (fAsg 5 (fOp opMod (fOp opAdd (fOp opAdd (fOp opMul (fOp opMod (fVar 2) (fVar 3)) (fC (.int 48271))) (fOp opMul (fC (.int 69621)) (fVar 1))) (fC (.int 11))) (fVar 3)))
    (fSeq (fFor (iRange1 (fCons (fC (.int 9)) (fNil))) (gNm 6) [6] (fSeq (fAsg 4 (fOp opAdd (fOp opMul (fVar 4) (fVar 3)) (fVar 5)))
    (fAsg 5 (fOp opMod (fOp opAdd (fOp opAdd (fOp opMul (fVar 5) (fVar 5)) (fOp opMul (fC (.int 40692)) (fVar 1))) (fVar 6)) (fVar 3)))))
    (fRet (fLst (fCons (fVar 4) (fNil)))))))))
def m__law_atape : FSem := semOf 2 7 b__law_atape
def b_is_whole : FS := fRet (fAndV (fUn (bIs "int") (fVar 0)) (fNotV (fUn (bIs "bool") (fVar 0))))
def m_is_whole : FSem := semOf 1 1 b_is_whole
def b_is_below : FS := fRet (fAndV (fCall m_is_whole [false] (fCons (fVar 0) (fNil))) (fChain cLe cLt (fC (.int 0)) (fVar 0) (fVar 1)))
def m_is_below : FSem := semOf 2 2 b_is_below
def b_is_rising : FS := fRet (fBlt bAll (fCons (fLc (iRange1 (fCons (fOp opSub (fBlt bLen (fCons (fVar 0) (fNil))) (fC (.int 1))) (fNil))) (gNm 1) [1] (fYes) (fOp cLt (fOp ixD2 (fVar 0) (fVar 1)) (fOp ixD2 (fVar 0) (fOp opAdd (fVar 1) (fC (.int 1)))))) (fNil)))
def m_is_rising : FSem := semOf 1 2 b_is_rising
def b_is_tie : FS := fSeq (fIfS (fOr (fNot (fB (fUn (bIs "tuple") (fVar 1)))) (fB (fOp cNe (fBlt bLen (fCons (fVar 1) (fNil))) (fC (.int 2))))) (fRet (fC (.bool false))) (fNext))
    (fRet (fAndV (fCall m_is_below [false, false] (fCons (fOp ixD2 (fVar 1) (fC (.int 0))) (fCons (fVar 0) (fNil)))) (fAndV (fCall m_is_below [false, false] (fCons (fOp ixD2 (fVar 1) (fC (.int 1))) (fCons (fVar 0) (fNil)))) (fOp cLt (fOp ixD2 (fVar 1) (fC (.int 0))) (fOp ixD2 (fVar 1) (fC (.int 1)))))))
def m_is_tie : FSem := semOf 2 2 b_is_tie
def b_are_ties : FS := fSeq (fIfS (fOr (fNot (fB (fUn (bIs "tuple") (fVar 1)))) (fNot (fB (fBlt bAll (fCons (fLc (iSeq (fVar 1)) (gNm 2) [2] (fYes) (fCall m_is_tie [false, false] (fCons (fVar 0) (fCons (fVar 2) (fNil))))) (fNil)))))) (fRet (fC (.bool false))) (fNext))
    (fRet (fCall m_is_rising [false] (fCons (fVar 1) (fNil))))
def m_are_ties : FSem := semOf 2 3 b_are_ties
def b_is_web : FS := fSeq (fIfS (fOr (fNot (fB (fUn (bIs "tuple") (fVar 0)))) (fB (fOp cNe (fBlt bLen (fCons (fVar 0) (fNil))) (fC (.int 2))))) (fRet (fC (.bool false))) (fNext))
    (fRet (fAndV (fCall m_is_below [false, false] (fCons (fOp ixD2 (fVar 0) (fC (.int 0))) (fCons (fOp opAdd (fC (.int 10)) (fC (.int 1))) (fNil)))) (fCall m_are_ties [false, false] (fCons (fOp ixD2 (fVar 0) (fC (.int 0))) (fCons (fOp ixD2 (fVar 0) (fC (.int 1))) (fNil))))))
def m_is_web : FSem := semOf 1 1 b_is_web
def b_need_web : FS := fIfS (fNot (fB (fCall m_is_web [false] (fCons (fVar 0) (fNil))))) (fRaise "NoWeb") (fNext)
def m_need_web : FSem := semOf 1 1 b_need_web
def b_all_sets : FS := fSeq (fAsg 1 (fLst (fCons (fTup (fNil)) (fNil))))
    (fSeq (fFor (iRange1 (fCons (fVar 0) (fNil))) (gNm 2) [2, 3] (fAsg 1 (fOp opAdd (fVar 1) (fLc (iSeq (fVar 1)) (gNm 3) [3] (fYes) (fOp opAdd (fVar 3) (fTup (fCons (fVar 2) (fNil))))))))
    (fRet (fVar 1)))
def m_all_sets : FSem := semOf 1 4 b_all_sets
def b_without : FS := fRet (fBlt bTuple (fCons (fLc (iSeq (fVar 0)) (gNm 2) [2] (fB (fOp cNotInK (fVar 2) (fVar 1))) (fVar 2)) (fNil)))
def m_without : FSem := semOf 2 3 b_without
def b_tied_in : FS := fRet (fOp cInK (fTup (fCons (fBlt bMin2 (fCons (fVar 1) (fCons (fVar 2) (fNil)))) (fCons (fBlt bMax2 (fCons (fVar 1) (fCons (fVar 2) (fNil)))) (fNil)))) (fOp ixD2 (fVar 0) (fC (.int 1))))
def m_tied_in : FSem := semOf 3 3 b_tied_in
def b_first_parts : FS := fSeq (fAsg 2 (fLst (fCons (fSl slD (fVar 1) (fNoPart) (fPart (fC (.int 1)))) (fNil))))
    (fSeq (fFor (iSeq (fSl slD (fVar 1) (fPart (fC (.int 1))) (fNoPart))) (gNm 3) [3, 4, 5, 6] (fSeq (fAsg 4 (fLc (iSeq (fVar 2)) (gNm 5) [5] (fNot (fB (fBlt bAny (fCons (fLc (iSeq (fVar 5)) (gNm 6) [6] (fYes) (fCall m_tied_in [false, false, false] (fCons (fVar 0) (fCons (fVar 6) (fCons (fVar 3) (fNil)))))) (fNil))))) (fOp opAdd (fVar 5) (fTup (fCons (fVar 3) (fNil))))))
    (fAsg 2 (fOp opAdd (fVar 2) (fVar 4)))))
    (fRet (fVar 2)))
def m_first_parts : FSem := semOf 2 7 b_first_parts
def b_floors_in : FS := fSeq (fAsg 1 fEmT)
    (fSeq (fFor (iSeq (fCall m_all_sets [false] (fCons (fOp ixD2 (fVar 0) (fC (.int 0))) (fNil)))) (gNm 2) [2, 3] (fIfS (fB (fOp cEq (fVar 2) (fTup (fNil)))) (fSetD 1 (fVar 2) (fC (.int 0))) (fSetD 1 (fVar 2) (fOp opAdd (fC (.int 1)) (fBlt bMinL (fCons (fLc (iSeq (fCall m_first_parts [false, false] (fCons (fVar 0) (fCons (fVar 2) (fNil))))) (gNm 3) [3] (fYes) (fOp ixD2 (fVar 1) (fCall m_without [false, false] (fCons (fVar 2) (fCons (fVar 3) (fNil)))))) (fNil)))))))
    (fRet (fVar 1)))
def m_floors_in : FSem := semOf 1 4 b_floors_in
def b_hues_by : FS := fSeq (fAsg 2 (fLc (iRange1 (fCons (fOp ixD2 (fVar 0) (fC (.int 0))) (fNil))) (gNm 3) [3] (fYes) (fC (.int 0))))
    (fSeq (fAsg 4 (fRg1 mkT (fOp ixD2 (fVar 0) (fC (.int 0)))))
    (fSeq (fAsg 5 (fC (.int 0)))
    (fSeq (fWhile [3, 6, 7] (fB (fOp cNe (fVar 4) (fTup (fNil)))) (fSeq (fAsg 6 (fLc (iSeq (fCall m_first_parts [false, false] (fCons (fVar 0) (fCons (fVar 4) (fNil))))) (gNm 7) [7] (fB (fOp cEq (fOp ixD2 (fVar 1) (fCall m_without [false, false] (fCons (fVar 4) (fCons (fVar 7) (fNil))))) (fOp opSub (fOp ixD2 (fVar 1) (fVar 4)) (fC (.int 1))))) (fVar 7)))
    (fSeq (fFor (iSeq (fOp ixD2 (fVar 6) (fC (.int 0)))) (gNm 3) [3] (fSetIx 2 (fVar 3) (fVar 5)))
    (fSeq (fAsg 4 (fCall m_without [false, false] (fCons (fVar 4) (fCons (fOp ixD2 (fVar 6) (fC (.int 0))) (fNil)))))
    (fAsg 5 (fOp opAdd (fVar 5) (fC (.int 1))))))))
    (fRet (fBlt bTuple (fCons (fVar 2) (fNil)))))))
def m_hues_by : FSem := semOf 2 8 b_hues_by
def b_fewest_in : FS := fSeq (fAsg 1 (fCall m_floors_in [false] (fCons (fVar 0) (fNil))))
    (fRet (fTupO (fCons (fBor (fOp ixD2 (fVar 1) (fRg1 mkT (fOp ixD2 (fVar 0) (fC (.int 0)))))) (fCons (fBor (fCall m_hues_by [false, false] (fCons (fVar 0) (fCons (fVar 1) (fNil))))) (fCons (fVar 1) (fNil))))))
def m_fewest_in : FSem := semOf 1 2 b_fewest_in
def b_fewest : FS := fSeq (fDrop (fCall m_need_web [false] (fCons (fVar 0) (fNil))))
    (fRet (fCall m_fewest_in [false] (fCons (fVar 0) (fNil))))
def m_fewest : FSem := semOf 1 1 b_fewest
def b__law_awhole : FS := fRet (fAndV (fUn (bIs "int") (fVar 0)) (fNotV (fUn (bIs "bool") (fVar 0))))
def m__law_awhole : FSem := semOf 1 1 b__law_awhole
def b__law_asets : FS := fSeq (fAsg 1 (fLst (fCons (fTup (fNil)) (fNil))))
    (fSeq (fFor (iRange1 (fCons (fVar 0) (fNil))) (gNm 2) [2, 3] (fAsg 1 (fOp opAdd (fVar 1) (fLc (iSeq (fVar 1)) (gNm 3) [3] (fYes) (fOp opAdd (fVar 3) (fTup (fCons (fVar 2) (fNil))))))))
    (fRet (fVar 1)))
def m__law_asets : FSem := semOf 1 4 b__law_asets
def b__law_aparts_of : FS := fSeq (fAsg 2 (fLst (fCons (fSl slD (fVar 1) (fNoPart) (fPart (fC (.int 1)))) (fNil))))
    (fSeq (fFor (iSeq (fSl slD (fVar 1) (fPart (fC (.int 1))) (fNoPart))) (gNm 3) [3, 4, 5, 6] (fSeq (fAsg 4 (fLst (fNil)))
    (fSeq (fFor (iSeq (fVar 2)) (gNm 5) [5, 6] (fIfS (fB (fOp cEq (fLc (iSeq (fVar 5)) (gNm 6) [6] (fB (fOp cInK (fTup (fCons (fVar 6) (fCons (fVar 3) (fNil)))) (fOp ixD2 (fVar 0) (fC (.int 1))))) (fVar 6)) (fLst (fNil)))) (fDrop (fLm 4 mAppend (fCons (fOp opAdd (fVar 5) (fTup (fCons (fVar 3) (fNil)))) (fNil)))) (fNext)))
    (fAsg 2 (fOp opAdd (fVar 2) (fVar 4))))))
    (fRet (fVar 2)))
def m__law_aparts_of : FSem := semOf 2 7 b__law_aparts_of
def b__law_aare_floors : FS := fSeq (fAsg 2 (fCall m__law_asets [false] (fCons (fOp ixD2 (fVar 0) (fC (.int 0))) (fNil))))
    (fSeq (fIfS (fOr (fNot (fB (fUn (bIs "dict") (fVar 1)))) (fB (fOp cNe (fBlt bLen2 (fCons (fVar 1) (fNil))) (fBlt bLen (fCons (fVar 2) (fNil)))))) (fRet (fC (.bool false))) (fNext))
    (fSeq (fIfS (fB (fOp cNe (fLc (iSeq (fVar 2)) (gNm 3) [3] (fB (fOp cNotInK (fVar 3) (fVar 1))) (fVar 3)) (fLst (fNil)))) (fRet (fC (.bool false))) (fNext))
    (fSeq (fIfS (fOr (fB (fOp cInK (fC (.bool false)) (fLc (iSeq (fVar 2)) (gNm 3) [3] (fYes) (fCall m__law_awhole [false] (fCons (fOp ixD2 (fVar 1) (fVar 3)) (fNil)))))) (fB (fOp cGt (fOp ixD2 (fVar 1) (fTup (fNil))) (fC (.int 0))))) (fRet (fC (.bool false))) (fNext))
    (fSeq (fFor (iSeq (fSl slD (fVar 2) (fPart (fC (.int 1))) (fNoPart))) (gNm 3) [3, 4, 5, 6] (fFor (iSeq (fCall m__law_aparts_of [false, false] (fCons (fVar 0) (fCons (fVar 3) (fNil))))) (gNm 4) [4, 5, 6] (fSeq (fAsg 5 (fBlt bTuple (fCons (fLc (iSeq (fVar 3)) (gNm 6) [6] (fB (fOp cNotInK (fVar 6) (fVar 4))) (fVar 6)) (fNil))))
    (fIfS (fB (fOp cGt (fOp ixD2 (fVar 1) (fVar 3)) (fOp opAdd (fC (.int 1)) (fOp ixD2 (fVar 1) (fVar 5))))) (fRet (fC (.bool false))) (fNext)))))
    (fRet (fC (.bool true)))))))
def m__law_aare_floors : FSem := semOf 2 7 b__law_aare_floors
def b_are_hues : FS := fSeq (fDrop (fCall m_need_web [false] (fCons (fVar 0) (fNil))))
    (fSeq (fIfS (fOr (fB (fOp cNe (fBlt bLen (fCons (fVar 1) (fNil))) (fOp ixD2 (fVar 0) (fC (.int 0))))) (fNot (fB (fBlt bAll (fCons (fLc (iSeq (fVar 1)) (gNm 2) [2] (fYes) (fOp cGe (fVar 2) (fC (.int 0)))) (fNil)))))) (fRet (fC (.bool false))) (fNext))
    (fRet (fBlt bAll (fCons (fLc (iSeq (fOp ixD2 (fVar 0) (fC (.int 1)))) (gTp [gNm 3, gNm 4]) [3, 4] (fYes) (fOp cNe (fOp ixD2 (fVar 1) (fVar 3)) (fOp ixD2 (fVar 1) (fVar 4)))) (fNil)))))
def m_are_hues : FSem := semOf 2 5 b_are_hues
def b_are_floors : FS := fSeq (fDrop (fCall m_need_web [false] (fCons (fVar 0) (fNil))))
    (fSeq (fAsg 3 (fCall m_all_sets [false] (fCons (fOp ixD2 (fVar 0) (fC (.int 0))) (fNil))))
    (fSeq (fIfS (fOr (fB (fOp cNe (fBlt bLen2 (fCons (fVar 1) (fNil))) (fBlt bLen (fCons (fVar 3) (fNil))))) (fNot (fB (fBlt bAll (fCons (fLc (iSeq (fVar 3)) (gNm 4) [4] (fYes) (fOp cInK (fVar 4) (fVar 1))) (fNil)))))) (fRet (fC (.bool false))) (fNext))
    (fSeq (fFor (iSeq (fVar 3)) (gNm 4) [4, 5] (fSeq (fIfS (fAnd (fB (fOp cEq (fVar 4) (fTup (fNil)))) (fB (fOp cGt (fOp ixD2 (fVar 1) (fVar 4)) (fC (.int 0))))) (fRet (fC (.bool false))) (fNext))
    (fIfS (fAnd (fB (fOp cNe (fVar 4) (fTup (fNil)))) (fNot (fB (fBlt bAll (fCons (fLc (iSeq (fCall m_first_parts [false, false] (fCons (fVar 0) (fCons (fVar 4) (fNil))))) (gNm 5) [5] (fYes) (fOp cLe (fOp ixD2 (fVar 1) (fVar 4)) (fOp opAdd (fOp ixD2 (fVar 1) (fCall m_without [false, false] (fCons (fVar 4) (fCons (fVar 5) (fNil))))) (fC (.int 1))))) (fNil)))))) (fRet (fC (.bool false))) (fNext))))
    (fRet (fOp cGe (fOp ixD2 (fVar 1) (fOp ixD2 (fVar 3) (fUn uNeg (fC (.int 1))))) (fVar 2))))))
def m_are_floors : FSem := semOf 3 6 b_are_floors
def b__law_aright : FS := fSeq (fAsg 1 (fCall m_fewest [false] (fCons (fVar 0) (fNil))))
    (fSeq (fIfS (fOr (fBorT (fNot (fB (fUn (bIs "tuple") (fVar 1))))) (fBorT (fB (fOp cNe (fBlt bLen (fCons (fVar 1) (fNil))) (fC (.int 3)))))) (fRet (fC (.bool false))) (fNext))
    (fSeq (fUnpO [2, 3, 4] (fMov 1))
    (fSeq (fIfS (fOr (fNot (fB (fCall m__law_awhole [false] (fCons (fVar 2) (fNil))))) (fOr (fNot (fB (fUn (bIs "tuple") (fVar 3)))) (fB (fOp cNe (fBlt bLen (fCons (fVar 3) (fNil))) (fOp ixD2 (fVar 0) (fC (.int 0))))))) (fRet (fC (.bool false))) (fNext))
    (fSeq (fIfS (fOr (fB (fOp cInK (fC (.bool false)) (fLc (iSeq (fVar 3)) (gNm 5) [5] (fYes) (fCall m__law_awhole [false] (fCons (fVar 5) (fNil)))))) (fB (fOp cNe (fBlt bSortedSet (fCons (fVar 3) (fNil))) (fRg1 mkL (fVar 2))))) (fRet (fC (.bool false))) (fNext))
    (fSeq (fIfS (fOr (fB (fOp cNe (fLc (iSeq (fOp ixD2 (fVar 0) (fC (.int 1)))) (gNm 6) [6] (fB (fOp cEq (fOp ixD2 (fVar 3) (fOp ixD2 (fVar 6) (fC (.int 0)))) (fOp ixD2 (fVar 3) (fOp ixD2 (fVar 6) (fC (.int 1)))))) (fVar 6)) (fLst (fNil)))) (fBorT (fNot (fB (fCall m__law_aare_floors [false, true] (fCons (fVar 0) (fCons (fVar 4) (fNil)))))))) (fRet (fC (.bool false))) (fNext))
    (fSeq (fIfS (fOr (fBorT (fB (fOp cNe (fOp ixD2 (fVar 4) (fRg1 mkT (fOp ixD2 (fVar 0) (fC (.int 0))))) (fVar 2)))) (fB (fOp cIsNot (fCall m_are_hues [false, false] (fCons (fVar 0) (fCons (fVar 3) (fNil)))) (fC (.bool true))))) (fRet (fC (.bool false))) (fNext))
    (fSeq (fIfS (fOr (fBorT (fB (fOp cIsNot (fCall m_are_floors [false, true, false] (fCons (fVar 0) (fCons (fVar 4) (fCons (fVar 2) (fNil))))) (fC (.bool true))))) (fBorT (fB (fOp cIsNot (fCall m_are_floors [false, true, false] (fCons (fVar 0) (fCons (fVar 4) (fCons (fOp opAdd (fVar 2) (fC (.int 1))) (fNil))))) (fC (.bool false)))))) (fRet (fC (.bool false))) (fNext))
    (fSeq (fDrop (fDClr 4))
    (fRet (fC (.bool true)))))))))))
def m__law_aright : FSem := semOf 1 7 b__law_aright
def b_law : FS := fSeq (fFor (iRange2 (fCons (fC (.int 0)) (fCons (fBlt bMax2 (fCons (fC (.int 1)) (fCons (fBlt bMin2 (fCons (fC (.int 2)) (fCons (fBlt bLen (fCons (fVar 0) (fNil))) (fNil)))) (fNil)))) (fNil)))) (gNm 1) [1, 2, 3] (fSeq (fAsg 2 (fCall m__law_aweb_of [false, false, true] (fCons (fVar 0) (fCons (fVar 1) (fCons (fCall m__law_atape [false, false] (fCons (fVar 0) (fCons (fVar 1) (fNil)))) (fNil))))))
    (fFor (iRange1 (fCons (fOp opAdd (fC (.int 1)) (fBlt bInt (fCons (fOp cLt (fOp ixD2 (fVar 2) (fC (.int 0))) (fC (.int 8))) (fNil)))) (fNil))) (gNm 3) [3] (fIfS (fNot (fB (fCall m__law_aright [false] (fCons (fVar 2) (fNil))))) (fRet (fC (.bool false))) (fNext)))))
    (fRet (fC (.bool true)))
def m_law : FSem := semOf 1 4 b_law
section
variable {P : Program} {w : World} {K : PySem.W.Frag} {mg : Str → Option Value} {base : Heap}
theorem sc__law_adigit : FnScope ["tape", "many", "found"] ["tape", "many"] (defScope s__law_adigit) := ⟨rfl, rfl, rfl, by decide +kernel, rfl, by decide +kernel, by decide +kernel⟩
theorem ok__law_adigit (T : TxOk fa fn K mg base) : Df P w K mg base "_law_adigit" 1 ["tape", "many"] [true, false] m__law_adigit := by
  refine dfOk (bd := b__law_adigit) T 0 0 sc__law_adigit (by decide) (fun _ _ _ _ _ _ us hl => match us, hl with | [_, _], _ => rfl) ?_
  intro f cdv A outer s H vs E hr
  have sc := sc__law_adigit
  exact pfs_cons (pfs_set (i := 2) sc.nd (pf_op fop_mod (pf_ix (fix_d2 hr.u1) (pf_var 0) (pf_int)) (pf_var 1)))
    (pfs_cons (pfs_setIx 0 (pf_op fop_fdiv (pf_ix (fix_d2 hr.u1) (pf_var 0) (pf_int)) (pf_var 1)) (pv 0) (pf_int))
    (pfs_one (pfs_ret (pf_var 2))))
theorem sc__law_aweb : FnScope ["tape", "most", "n", "often", "ties", "i", "j"] ["tape", "most"] (defScope s__law_aweb) := ⟨rfl, rfl, rfl, by decide +kernel, rfl, by decide +kernel, by decide +kernel⟩
theorem ok__law_aweb (T : TxOk fa fn K mg base) : Df P w K mg base "_law_aweb" 2 ["tape", "most"] [true, false] m__law_aweb := by
  refine dfOk (bd := b__law_aweb) T 1 1 sc__law_aweb (by decide) (fun _ _ _ _ _ _ us hl => match us, hl with | [_, _], _ => rfl) ?_
  intro f cdv A outer s H vs E hr
  have sc := sc__law_aweb
  exact pfs_cons (pfs_set (i := 2) sc.nd (pf_callD (ok__law_adigit T) (hr.mono (by decide)) (fun σ => passAt (takes_of rfl rfl rfl rfl) σ) (pf_cons (pf_var 0) (pf_cons (pf_op fop_add (pf_var 1) (pf_int)) (pf_nil)))))
    (pfs_cons (pfs_set (i := 3) sc.nd (pf_op fop_add (pf_int) (pf_callD (ok__law_adigit T) (hr.mono (by decide)) (fun σ => passAt (takes_of rfl rfl rfl rfl) σ) (pf_cons (pf_var 0) (pf_cons (pf_int) (pf_nil))))))
    (pfs_cons (pfs_set (i := 4) sc.nd (pf_lst (pf_nil)))
    (pfs_cons (pfs_for (ws := [5]) (wp := [5, 6]) (passes_of rfl) rfl (pfi_range1 rfl (T.free 31) (pf_cons (pf_var 2) (pf_nil))) (pfg_nm sc.nd) (pfs_one (pfs_for (ws := [6]) (wp := [6]) (passes_of rfl) rfl (pfi_range2 rfl (T.free 31) (pf_cons (pf_op fop_add (pf_var 5) (pf_int)) (pf_cons (pf_var 2) (pf_nil)))) (pfg_nm sc.nd) (pfs_one (pfs_if (pft_cmp (fop_lt hr.units0) (pf_callD (ok__law_adigit T) (hr.mono (by decide)) (fun σ => passAt (takes_of rfl rfl rfl rfl) σ) (pf_cons (pf_var 0) (pf_cons (pf_int) (pf_nil)))) (pf_var 3) (nomark _)) (pfs_one (pfs_expr (pf_lm 4 PySem.F.slot_list_append PySem.F.type_list_append fm_append (pf_cons (pf_tup (pf_cons (pf_var 5) (pf_cons (pf_var 6) (pf_nil)))) (pf_nil)) (pv 4)))) (pfs_nil))))))
    (pfs_one (pfs_ret (pf_tup (pf_cons (pf_var 2) (pf_cons (pf_bty fb_tuple (T.free 32) bb_tuple (pf_cons (pf_var 4) (pf_nil))) (pf_nil)))))))))
theorem sc__law_acell : FnScope ["script", "k"] ["script", "k"] (defScope s__law_acell) := ⟨rfl, rfl, rfl, by decide +kernel, rfl, by decide +kernel, by decide +kernel⟩
theorem ok__law_acell (T : TxOk fa fn K mg base) : Df P w K mg base "_law_acell" 1 ["script", "k"] [false, false] m__law_acell := by
  refine dfOk (bd := b__law_acell) T 2 2 sc__law_acell (by decide) (fun _ _ _ _ _ _ us hl => match us, hl with | [_, _], _ => rfl) ?_
  intro f cdv A outer s H vs E hr
  have sc := sc__law_acell
  exact pfs_cons (pfs_if (pft_cmp (fop_lt hr.units0) (pf_var 1) (pf_blt fb_len (T.free 33) bb_len (pf_cons (pf_var 0) (pf_nil))) (nomark _)) (pfs_one (pfs_ret (pf_ix (fix_d2 hr.u1) (pf_var 0) (pf_var 1)))) (pfs_nil))
    (pfs_one (pfs_ret (pf_int)))
theorem sc__law_aweb_of : FnScope ["script", "start", "tape", "n", "often", "ties", "i", "j"] ["script", "start", "tape"] (defScope s__law_aweb_of) := ⟨rfl, rfl, rfl, by decide +kernel, rfl, by decide +kernel, by decide +kernel⟩
theorem ok__law_aweb_of (T : TxOk fa fn K mg base) : Df P w K mg base "_law_aweb_of" 3 ["script", "start", "tape"] [false, false, true] m__law_aweb_of := by
  refine dfOk (bd := b__law_aweb_of) T 3 3 sc__law_aweb_of (by decide) (fun _ _ _ _ _ _ us hl => match us, hl with | [_, _, _], _ => rfl) ?_
  intro f cdv A outer s H vs E hr
  have sc := sc__law_aweb_of
  exact pfs_cons (pfs_if (pft_W (pfw_or (pft_cmp fop_gt (pf_var 1) (pf_int) (nomark _)) (pfw_or1 (pft_cmp (fop_ne hr.u64) (pf_op fop_mod (pf_op fop_fdiv (pf_callD (ok__law_acell T) (hr.mono (by decide)) (fun σ => passAt (takes_of rfl rfl rfl rfl) σ) (pf_cons (pf_var 0) (pf_cons (pf_int) (pf_nil)))) (pf_int)) (pf_int)) (pf_int) (nomark _))))) (pfs_one (pfs_ret (pf_callD (ok__law_aweb T) (hr.mono (by decide)) (fun σ => passAt (takes_of rfl rfl rfl rfl) σ) (pf_cons (pf_var 2) (pf_cons (pf_int) (pf_nil)))))) (pfs_nil))
    (pfs_cons (pfs_set (i := 3) sc.nd (pf_op fop_add (pf_int) (pf_callD (ok__law_adigit T) (hr.mono (by decide)) (fun σ => passAt (takes_of rfl rfl rfl rfl) σ) (pf_cons (pf_var 2) (pf_cons (pf_int) (pf_nil))))))
    (pfs_cons (pfs_set (i := 4) sc.nd (pf_op fop_add (pf_int) (pf_callD (ok__law_adigit T) (hr.mono (by decide)) (fun σ => passAt (takes_of rfl rfl rfl rfl) σ) (pf_cons (pf_var 2) (pf_cons (pf_int) (pf_nil))))))
    (pfs_cons (pfs_set (i := 5) sc.nd (pf_lst (pf_nil)))
    (pfs_cons (pfs_for (ws := [6]) (wp := [6, 7]) (passes_of rfl) rfl (pfi_range1 rfl (T.free 31) (pf_cons (pf_var 3) (pf_nil))) (pfg_nm sc.nd) (pfs_one (pfs_for (ws := [7]) (wp := [7]) (passes_of rfl) rfl (pfi_range2 rfl (T.free 31) (pf_cons (pf_op fop_add (pf_var 6) (pf_int)) (pf_cons (pf_var 3) (pf_nil)))) (pfg_nm sc.nd) (pfs_one (pfs_if (pft_W (pfw_or (pft_cmp (fop_lt hr.units0) (pf_callD (ok__law_adigit T) (hr.mono (by decide)) (fun σ => passAt (takes_of rfl rfl rfl rfl) σ) (pf_cons (pf_var 2) (pf_cons (pf_int) (pf_nil)))) (pf_var 4) (nomark _)) (pfw_or1 (pft_cmp (fop_eq hr.u64) (pf_var 7) (pf_op fop_add (pf_var 6) (pf_int)) (nomark _))))) (pfs_one (pfs_expr (pf_lm 5 PySem.F.slot_list_append PySem.F.type_list_append fm_append (pf_cons (pf_tup (pf_cons (pf_var 6) (pf_cons (pf_var 7) (pf_nil)))) (pf_nil)) (pv 5)))) (pfs_nil))))))
    (pfs_one (pfs_ret (pf_tup (pf_cons (pf_var 3) (pf_cons (pf_bty fb_tuple (T.free 32) bb_tuple (pf_cons (pf_var 5) (pf_nil))) (pf_nil))))))))))
theorem sc__law_atape : FnScope ["script", "k", "cell", "p", "number", "last", "turn"] ["script", "k"] (defScope s__law_atape) := ⟨rfl, rfl, rfl, by decide +kernel, rfl, by decide +kernel, by decide +kernel⟩
theorem ok__law_atape (T : TxOk fa fn K mg base) : Df P w K mg base "_law_atape" 2 ["script", "k"] [false, false] m__law_atape := by
  refine dfOk (bd := b__law_atape) T 4 4 sc__law_atape (by decide) (fun _ _ _ _ _ _ us hl => match us, hl with | [_, _], _ => rfl) ?_
  intro f cdv A outer s H vs E hr
  have sc := sc__law_atape
  exact pfs_cons (pfs_set (i := 2) sc.nd (pf_callD (ok__law_acell T) (hr.mono (by decide)) (fun σ => passAt (takes_of rfl rfl rfl rfl) σ) (pf_cons (pf_var 0) (pf_cons (pf_var 1) (pf_nil)))))
    (pfs_cons (pfs_if (pft_cmp (fop_eq hr.u64) (pf_op fop_mod (pf_var 2) (pf_int)) (pf_int) (nomark _)) (pfs_one (pfs_ret (pf_lst (pf_cons (pf_op fop_fdiv (pf_var 2) (pf_int)) (pf_nil))))) (pfs_nil))
    (pfs_cons (pfs_set (i := 3) sc.nd (pf_int))
    (pfs_cons (pfs_set (i := 4) sc.nd (pf_int))
    (pfs_cons (pfs_set (i := 5) sc.nd (pf_op fop_mod (pf_op fop_add (pf_op fop_add (pf_op fop_mul (pf_op fop_mod (pf_var 2) (pf_var 3)) (pf_int)) (pf_op fop_mul (pf_int) (pf_var 1))) (pf_int)) (pf_var 3)))
    (pfs_cons (pfs_for (ws := [6]) (wp := [6]) (passes_of rfl) rfl (pfi_range1 rfl (T.free 31) (pf_cons (pf_int) (pf_nil))) (pfg_nm sc.nd) (pfs_cons (pfs_set (i := 4) sc.nd (pf_op fop_add (pf_op fop_mul (pf_var 4) (pf_var 3)) (pf_var 5)))
    (pfs_one (pfs_set (i := 5) sc.nd (pf_op fop_mod (pf_op fop_add (pf_op fop_add (pf_op fop_mul (pf_var 5) (pf_var 5)) (pf_op fop_mul (pf_int) (pf_var 1))) (pf_var 6)) (pf_var 3))))))
    (pfs_one (pfs_ret (pf_lst (pf_cons (pf_var 4) (pf_nil))))))))))
theorem sc_is_whole : FnScope ["thing"] ["thing"] (defScope s_is_whole) := ⟨rfl, rfl, rfl, by decide +kernel, rfl, by decide +kernel, by decide +kernel⟩
theorem ok_is_whole (T : TxOk fa fn K mg base) : Df P w K mg base "is_whole" 1 ["thing"] [false] m_is_whole := by
  refine dfOk (bd := b_is_whole) T 5 5 sc_is_whole (by decide) (fun _ _ _ _ _ _ us hl => match us, hl with | [_], _ => rfl) ?_
  intro f cdv A outer s H vs E hr
  have sc := sc_is_whole
  exact pfs_one (pfs_ret (pf_and (pf_isinst .int (pf_var 0) (T.free 34) (T.free 35) bb_int) (pf_one (pf_not (pf_isinst .bool (pf_var 0) (T.free 34) (T.free 36) bb_bool)))))
theorem sc_is_below : FnScope ["thing", "many"] ["thing", "many"] (defScope s_is_below) := ⟨rfl, rfl, rfl, by decide +kernel, rfl, by decide +kernel, by decide +kernel⟩
theorem ok_is_below (T : TxOk fa fn K mg base) : Df P w K mg base "is_below" 2 ["thing", "many"] [false, false] m_is_below := by
  refine dfOk (bd := b_is_below) T 6 6 sc_is_below (by decide) (fun _ _ _ _ _ _ us hl => match us, hl with | [_, _], _ => rfl) ?_
  intro f cdv A outer s H vs E hr
  have sc := sc_is_below
  exact pfs_one (pfs_ret (pf_and (pf_callD (ok_is_whole T) (hr.mono (by decide)) (fun σ => passAt (takes_of rfl rfl rfl rfl) σ) (pf_cons (pf_var 0) (pf_nil))) (pf_one (pf_chain fop_le (fop_lt hr.units0) (pf_int) (pf_var 0) (pf_var 1)))))
theorem sc_is_rising : FnScope ["row", "k"] ["row"] (defScope s_is_rising) := ⟨rfl, rfl, rfl, by decide +kernel, rfl, by decide +kernel, by decide +kernel⟩
theorem ok_is_rising (T : TxOk fa fn K mg base) : Df P w K mg base "is_rising" 1 ["row"] [false] m_is_rising := by
  refine dfOk (bd := b_is_rising) T 7 7 sc_is_rising (by decide) (fun _ _ _ _ _ _ us hl => match us, hl with | [_], _ => rfl) ?_
  intro f cdv A outer s H vs E hr
  have sc := sc_is_rising
  exact pfs_one (pfs_ret (pf_blt (fb_all rfl) (T.free 37) bb_all (pf_cons (pf_lc (own := [("k", 1)]) rfl sc.nd (pfi_range1 rfl (T.free 31) (pf_cons (pf_op fop_sub (pf_blt fb_len (T.free 33) bb_len (pf_cons (pf_var 0) (pf_nil))) (pf_int)) (pf_nil))) (blkOk_by (by rfl)) (fun s H C cl fp => pfg_nm sc.nd) (fun s H C cl fp => pfts_nil) (fun s H C cl fp => pf_cmp (fop_lt hr.units0) (pf_ix (fix_d2 hr.u1) (pf_var 0) (pf_var 1)) (pf_ix (fix_d2 hr.u1) (pf_var 0) (pf_op fop_add (pf_var 1) (pf_int))) (nomark _))) (pf_nil))))
theorem sc_is_tie : FnScope ["n", "thing"] ["n", "thing"] (defScope s_is_tie) := ⟨rfl, rfl, rfl, by decide +kernel, rfl, by decide +kernel, by decide +kernel⟩
theorem ok_is_tie (T : TxOk fa fn K mg base) : Df P w K mg base "is_tie" 3 ["n", "thing"] [false, false] m_is_tie := by
  refine dfOk (bd := b_is_tie) T 8 8 sc_is_tie (by decide) (fun _ _ _ _ _ _ us hl => match us, hl with | [_, _], _ => rfl) ?_
  intro f cdv A outer s H vs E hr
  have sc := sc_is_tie
  exact pfs_cons (pfs_if (pft_W (pfw_or (pft_not (pft_B (pf_isinst .tuple (pf_var 1) (T.free 34) (T.free 32) bb_tuple))) (pfw_or1 (pft_cmp (fop_ne hr.u64) (pf_blt fb_len (T.free 33) bb_len (pf_cons (pf_var 1) (pf_nil))) (pf_int) (nomark _))))) (pfs_one (pfs_ret (pf_bl))) (pfs_nil))
    (pfs_one (pfs_ret (pf_and (pf_callD (ok_is_below T) (hr.mono (by decide)) (fun σ => passAt (takes_of rfl rfl rfl rfl) σ) (pf_cons (pf_ix (fix_d2 hr.u1) (pf_var 1) (pf_int)) (pf_cons (pf_var 0) (pf_nil)))) (pf_and (pf_callD (ok_is_below T) (hr.mono (by decide)) (fun σ => passAt (takes_of rfl rfl rfl rfl) σ) (pf_cons (pf_ix (fix_d2 hr.u1) (pf_var 1) (pf_int)) (pf_cons (pf_var 0) (pf_nil)))) (pf_one (pf_cmp (fop_lt hr.units0) (pf_ix (fix_d2 hr.u1) (pf_var 1) (pf_int)) (pf_ix (fix_d2 hr.u1) (pf_var 1) (pf_int)) (nomark _)))))))
theorem sc_are_ties : FnScope ["n", "thing", "tie"] ["n", "thing"] (defScope s_are_ties) := ⟨rfl, rfl, rfl, by decide +kernel, rfl, by decide +kernel, by decide +kernel⟩
theorem ok_are_ties (T : TxOk fa fn K mg base) : Df P w K mg base "are_ties" 4 ["n", "thing"] [false, false] m_are_ties := by
  refine dfOk (bd := b_are_ties) T 9 9 sc_are_ties (by decide) (fun _ _ _ _ _ _ us hl => match us, hl with | [_, _], _ => rfl) ?_
  intro f cdv A outer s H vs E hr
  have sc := sc_are_ties
  exact pfs_cons (pfs_if (pft_W (pfw_or (pft_not (pft_B (pf_isinst .tuple (pf_var 1) (T.free 34) (T.free 32) bb_tuple))) (pfw_or1 (pft_not (pft_B (pf_blt (fb_all rfl) (T.free 37) bb_all (pf_cons (pf_lc (own := [("tie", 2)]) rfl sc.nd (pfi_seq (pf_var 1)) (blkOk_by (by rfl)) (fun s H C cl fp => pfg_nm sc.nd) (fun s H C cl fp => pfts_nil) (fun s H C cl fp => pf_callD (ok_is_tie T) (hr.mono (by decide)) pass0At (pf_cons (pf_var 0) (pf_cons (pf_var 2) (pf_nil))))) (pf_nil)))))))) (pfs_one (pfs_ret (pf_bl))) (pfs_nil))
    (pfs_one (pfs_ret (pf_callD (ok_is_rising T) (hr.mono (by decide)) (fun σ => passAt (takes_of rfl rfl rfl rfl) σ) (pf_cons (pf_var 1) (pf_nil)))))
theorem sc_is_web : FnScope ["thing"] ["thing"] (defScope s_is_web) := ⟨rfl, rfl, rfl, by decide +kernel, rfl, by decide +kernel, by decide +kernel⟩
theorem ok_is_web (T : TxOk fa fn K mg base) : Df P w K mg base "is_web" 5 ["thing"] [false] m_is_web := by
  refine dfOk (bd := b_is_web) T 10 10 sc_is_web (by decide) (fun _ _ _ _ _ _ us hl => match us, hl with | [_], _ => rfl) ?_
  intro f cdv A outer s H vs E hr
  have sc := sc_is_web
  exact pfs_cons (pfs_if (pft_W (pfw_or (pft_not (pft_B (pf_isinst .tuple (pf_var 0) (T.free 34) (T.free 32) bb_tuple))) (pfw_or1 (pft_cmp (fop_ne hr.u64) (pf_blt fb_len (T.free 33) bb_len (pf_cons (pf_var 0) (pf_nil))) (pf_int) (nomark _))))) (pfs_one (pfs_ret (pf_bl))) (pfs_nil))
    (pfs_one (pfs_ret (pf_and (pf_callD (ok_is_below T) (hr.mono (by decide)) (fun σ => passAt (takes_of rfl rfl rfl rfl) σ) (pf_cons (pf_ix (fix_d2 hr.u1) (pf_var 0) (pf_int)) (pf_cons (pf_op fop_add (pf_globI (T.int 30)) (pf_int)) (pf_nil)))) (pf_one (pf_callD (ok_are_ties T) (hr.mono (by decide)) (fun σ => passAt (takes_of rfl rfl rfl rfl) σ) (pf_cons (pf_ix (fix_d2 hr.u1) (pf_var 0) (pf_int)) (pf_cons (pf_ix (fix_d2 hr.u1) (pf_var 0) (pf_int)) (pf_nil))))))))
theorem sc_need_web : FnScope ["web"] ["web"] (defScope s_need_web) := ⟨rfl, rfl, rfl, by decide +kernel, rfl, by decide +kernel, by decide +kernel⟩
theorem ok_need_web (T : TxOk fa fn K mg base) : Df P w K mg base "need_web" 6 ["web"] [false] m_need_web := by
  refine dfOk (bd := b_need_web) T 11 11 sc_need_web (by decide) (fun _ _ _ _ _ _ us hl => match us, hl with | [_], _ => rfl) ?_
  intro f cdv A outer s H vs E hr
  have sc := sc_need_web
  exact pfs_one (pfs_if (pft_not (pft_B (pf_callD (ok_is_web T) (hr.mono (by decide)) (fun σ => passAt (takes_of rfl rfl rfl rfl) σ) (pf_cons (pf_var 0) (pf_nil))))) (pfs_one (pfs_raise rfl (takes_of rfl rfl rfl rfl) (T.glo 28) (T.exc 29))) (pfs_nil))
theorem sc_all_sets : FnScope ["n", "found", "place", "some"] ["n"] (defScope s_all_sets) := ⟨rfl, rfl, rfl, by decide +kernel, rfl, by decide +kernel, by decide +kernel⟩
theorem ok_all_sets (T : TxOk fa fn K mg base) : Df P w K mg base "all_sets" 1 ["n"] [false] m_all_sets := by
  refine dfOk (bd := b_all_sets) T 12 12 sc_all_sets (by decide) (fun _ _ _ _ _ _ us hl => match us, hl with | [_], _ => rfl) ?_
  intro f cdv A outer s H vs E hr
  have sc := sc_all_sets
  exact pfs_cons (pfs_set (i := 1) sc.nd (pf_lst (pf_cons (pf_tup (pf_nil)) (pf_nil))))
    (pfs_cons (pfs_for (ws := [2]) (wp := [2, 3]) (passes_of rfl) rfl (pfi_range1 rfl (T.free 31) (pf_cons (pf_var 0) (pf_nil))) (pfg_nm sc.nd) (pfs_one (pfs_set (i := 1) sc.nd (pf_op fop_add (pf_var 1) (pf_lc (own := [("some", 3)]) rfl sc.nd (pfi_seq (pf_var 1)) (blkOk_by (by rfl)) (fun s H C cl fp => pfg_nm sc.nd) (fun s H C cl fp => pfts_nil) (fun s H C cl fp => pf_op fop_add (pf_var 3) (pf_tup (pf_cons (pf_var 2) (pf_nil)))))))))
    (pfs_one (pfs_ret (pf_var 1))))
theorem sc_without : FnScope ["some", "part", "place"] ["some", "part"] (defScope s_without) := ⟨rfl, rfl, rfl, by decide +kernel, rfl, by decide +kernel, by decide +kernel⟩
theorem ok_without (T : TxOk fa fn K mg base) : Df P w K mg base "without" 1 ["some", "part"] [false, false] m_without := by
  refine dfOk (bd := b_without) T 13 13 sc_without (by decide) (fun _ _ _ _ _ _ us hl => match us, hl with | [_, _], _ => rfl) ?_
  intro f cdv A outer s H vs E hr
  have sc := sc_without
  exact pfs_one (pfs_ret (pf_bty fb_tuple (T.free 32) bb_tuple (pf_cons (pf_lc (own := [("place", 2)]) rfl sc.nd (pfi_seq (pf_var 0)) (blkOk_by (by rfl)) (fun s H C cl fp => pfg_nm sc.nd) (fun s H C cl fp => pfts_one (pft_cmp (fop_notInK hr.u65) (pf_var 2) (pf_var 1) (by rfl))) (fun s H C cl fp => pf_var 2)) (pf_nil))))
theorem sc_tied_in : FnScope ["web", "one", "other"] ["web", "one", "other"] (defScope s_tied_in) := ⟨rfl, rfl, rfl, by decide +kernel, rfl, by decide +kernel, by decide +kernel⟩
theorem ok_tied_in (T : TxOk fa fn K mg base) : Df P w K mg base "tied_in" 1 ["web", "one", "other"] [false, false, false] m_tied_in := by
  refine dfOk (bd := b_tied_in) T 14 14 sc_tied_in (by decide) (fun _ _ _ _ _ _ us hl => match us, hl with | [_, _, _], _ => rfl) ?_
  intro f cdv A outer s H vs E hr
  have sc := sc_tied_in
  exact pfs_one (pfs_ret (pf_cmp (fop_inK hr.u65) (pf_tup (pf_cons (pf_blt (fb_min2 rfl) (T.free 39) bb_min (pf_cons (pf_var 1) (pf_cons (pf_var 2) (pf_nil)))) (pf_cons (pf_blt (fb_max2 rfl) (T.free 38) bb_max (pf_cons (pf_var 1) (pf_cons (pf_var 2) (pf_nil)))) (pf_nil)))) (pf_ix (fix_d2 hr.u1) (pf_var 0) (pf_int)) (by rfl)))
theorem sc_first_parts : FnScope ["web", "some", "found", "place", "more", "part", "one"] ["web", "some"] (defScope s_first_parts) := ⟨rfl, rfl, rfl, by decide +kernel, rfl, by decide +kernel, by decide +kernel⟩
theorem ok_first_parts (T : TxOk fa fn K mg base) : Df P w K mg base "first_parts" 2 ["web", "some"] [false, false] m_first_parts := by
  refine dfOk (bd := b_first_parts) T 15 15 sc_first_parts (by decide) (fun _ _ _ _ _ _ us hl => match us, hl with | [_, _], _ => rfl) ?_
  intro f cdv A outer s H vs E hr
  have sc := sc_first_parts
  exact pfs_cons (pfs_set (i := 2) sc.nd (pf_lst (pf_cons (pf_sl (pf_var 1) (pfo_none) (pfo_some (pf_int))) (pf_nil))))
    (pfs_cons (pfs_for (ws := [3]) (wp := [3, 4, 5, 6]) (passes_of rfl) rfl (pfi_seq (pf_sl (pf_var 1) (pfo_some (pf_int)) (pfo_none))) (pfg_nm sc.nd) (pfs_cons (pfs_setLc (own := [("part", 5)]) rfl sc.nd rfl (pfi_seq (pf_var 2)) (blkOk_by (by rfl)) (fun s H C cl fp => pfg_nm sc.nd) (fun s H C cl fp => pfts_one (pft_not (pft_B (pf_blt (fb_any rfl) (T.free 40) bb_any (pf_cons (pf_lc (own := [("one", 6)]) rfl sc.nd (pfi_seq (pf_var 5)) (blkOk_by (by rfl)) (fun s H C cl fp => pfg_nm sc.nd) (fun s H C cl fp => pfts_nil) (fun s H C cl fp => pf_callD (ok_tied_in T) (hr.mono (by decide)) pass0At (pf_cons (pf_var 0) (pf_cons (pf_var 6) (pf_cons (pf_var 3) (pf_nil)))))) (pf_nil)))))) (fun s H C cl fp => pf_op fop_add (pf_var 5) (pf_tup (pf_cons (pf_var 3) (pf_nil)))))
    (pfs_one (pfs_set (i := 2) sc.nd (pf_op fop_add (pf_var 2) (pf_var 4))))))
    (pfs_one (pfs_ret (pf_var 2))))
theorem sc_floors_in : FnScope ["web", "found", "some", "part"] ["web"] (defScope s_floors_in) := ⟨rfl, rfl, rfl, by decide +kernel, rfl, by decide +kernel, by decide +kernel⟩
theorem ok_floors_in (T : TxOk fa fn K mg base) : Df P w K mg base "floors_in" 3 ["web"] [false] m_floors_in := by
  refine dfOk (bd := b_floors_in) T 16 16 sc_floors_in (by decide) (fun _ _ _ _ _ _ us hl => match us, hl with | [_], _ => rfl) ?_
  intro f cdv A outer s H vs E hr
  have sc := sc_floors_in
  exact pfs_cons (pfs_set (i := 1) sc.nd pf_emT)
    (pfs_cons (pfs_for (ws := [2]) (wp := [2, 3]) (passes_of rfl) rfl (pfi_seq (pf_callD (ok_all_sets T) (hr.mono (by decide)) (fun σ => passAt (takes_of rfl rfl rfl rfl) σ) (pf_cons (pf_ix (fix_d2 hr.u1) (pf_var 0) (pf_int)) (pf_nil)))) (pfg_nm sc.nd) (pfs_one (pfs_if (pft_cmp (fop_eq hr.u64) (pf_var 2) (pf_tup (pf_nil)) (nomark _)) (pfs_one (pfs_setD 1 hr.u1 (pf_int) (pv 1) (pf_var 2))) (pfs_one (pfs_setD 1 hr.u1 (pf_op fop_add (pf_int) (pf_blt (fb_minL rfl) (T.free 39) bb_min (pf_cons (pf_lc (own := [("part", 3)]) rfl sc.nd (pfi_seq (pf_callD (ok_first_parts T) (hr.mono (by decide)) (fun σ => passAt (takes_of rfl rfl rfl rfl) σ) (pf_cons (pf_var 0) (pf_cons (pf_var 2) (pf_nil))))) (blkOk_by (by rfl)) (fun s H C cl fp => pfg_nm sc.nd) (fun s H C cl fp => pfts_nil) (fun s H C cl fp => pf_ix (fix_d2 hr.u1) (pf_var 1) (pf_callD (ok_without T) (hr.mono (by decide)) pass0At (pf_cons (pf_var 2) (pf_cons (pf_var 3) (pf_nil)))))) (pf_nil)))) (pv 1) (pf_var 2))))))
    (pfs_one (pfs_ret (pf_var 1))))
theorem sc_hues_by : FnScope ["web", "floors", "hues", "place", "left", "hue", "fit", "part"] ["web", "floors"] (defScope s_hues_by) := ⟨rfl, rfl, rfl, by decide +kernel, rfl, by decide +kernel, by decide +kernel⟩
theorem ok_hues_by (T : TxOk fa fn K mg base) : Df P w K mg base "hues_by" 3 ["web", "floors"] [false, false] m_hues_by := by
  refine dfOk (bd := b_hues_by) T 17 17 sc_hues_by (by decide) (fun _ _ _ _ _ _ us hl => match us, hl with | [_, _], _ => rfl) ?_
  intro f cdv A outer s H vs E hr
  have sc := sc_hues_by
  exact pfs_cons (pfs_setLc (own := [("place", 3)]) rfl sc.nd rfl (pfi_range1 rfl (T.free 31) (pf_cons (pf_ix (fix_d2 hr.u1) (pf_var 0) (pf_int)) (pf_nil))) (blkOk_by (by rfl)) (fun s H C cl fp => pfg_nm sc.nd) (fun s H C cl fp => pfts_nil) (fun s H C cl fp => pf_int))
    (pfs_cons (pfs_set (i := 4) sc.nd (pf_tRg1 rfl (T.free 32) (T.free 31) (pf_ix (fix_d2 hr.u1) (pf_var 0) (pf_int))))
    (pfs_cons (pfs_set (i := 5) sc.nd (pf_int))
    (pfs_cons (pfs_while (wp := [3, 6, 7]) (passes_of rfl) (pft_cmp (fop_ne hr.u64) (pf_var 4) (pf_tup (pf_nil)) (nomark _)) (pfs_cons (pfs_setLc (own := [("part", 7)]) rfl sc.nd rfl (pfi_seq (pf_callD (ok_first_parts T) (hr.mono (by decide)) (fun σ => passAt (takes_of rfl rfl rfl rfl) σ) (pf_cons (pf_var 0) (pf_cons (pf_var 4) (pf_nil))))) (blkOk_by (by rfl)) (fun s H C cl fp => pfg_nm sc.nd) (fun s H C cl fp => pfts_one (pft_cmp (fop_eq hr.u64) (pf_ix (fix_d2 hr.u1) (pf_var 1) (pf_callD (ok_without T) (hr.mono (by decide)) pass0At (pf_cons (pf_var 4) (pf_cons (pf_var 7) (pf_nil))))) (pf_op fop_sub (pf_ix (fix_d2 hr.u1) (pf_var 1) (pf_var 4)) (pf_int)) (nomark _))) (fun s H C cl fp => pf_var 7))
    (pfs_cons (pfs_for (ws := [3]) (wp := [3]) (passes_of rfl) rfl (pfi_seq (pf_ix (fix_d2 hr.u1) (pf_var 6) (pf_int))) (pfg_nm sc.nd) (pfs_one (pfs_setIx 2 (pf_var 5) (pv 2) (pf_var 3))))
    (pfs_cons (pfs_set (i := 4) sc.nd (pf_callD (ok_without T) (hr.mono (by decide)) (fun σ => passAt (takes_of rfl rfl rfl rfl) σ) (pf_cons (pf_var 4) (pf_cons (pf_ix (fix_d2 hr.u1) (pf_var 6) (pf_int)) (pf_nil)))))
    (pfs_one (pfs_set (i := 5) sc.nd (pf_op fop_add (pf_var 5) (pf_int))))))))
    (pfs_one (pfs_ret (pf_bty fb_tuple (T.free 32) bb_tuple (pf_cons (pf_var 2) (pf_nil))))))))
theorem sc_fewest_in : FnScope ["web", "floors"] ["web"] (defScope s_fewest_in) := ⟨rfl, rfl, rfl, by decide +kernel, rfl, by decide +kernel, by decide +kernel⟩
theorem ok_fewest_in (T : TxOk fa fn K mg base) : Df P w K mg base "fewest_in" 4 ["web"] [false] m_fewest_in := by
  refine dfOk (bd := b_fewest_in) T 18 18 sc_fewest_in (by decide) (fun _ _ _ _ _ _ us hl => match us, hl with | [_], _ => rfl) ?_
  intro f cdv A outer s H vs E hr
  have sc := sc_fewest_in
  exact pfs_cons (pfs_set (i := 1) sc.nd (pf_callD (ok_floors_in T) (hr.mono (by decide)) (fun σ => passAt (takes_of rfl rfl rfl rfl) σ) (pf_cons (pf_var 0) (pf_nil))))
    (pfs_one (pfs_ret (pf_tupO (pf_cons (pf_bor (pf_ix (fix_d2 hr.u1) (pf_var 1) (pf_tRg1 rfl (T.free 32) (T.free 31) (pf_ix (fix_d2 hr.u1) (pf_var 0) (pf_int))))) (pf_cons (pf_bor (pf_callD (ok_hues_by T) (hr.mono (by decide)) (fun σ => passAt (takes_of rfl rfl rfl rfl) σ) (pf_cons (pf_var 0) (pf_cons (pf_var 1) (pf_nil))))) (pf_cons (pf_var 1) (pf_nil)))))))
theorem sc_fewest : FnScope ["web"] ["web"] (defScope s_fewest) := ⟨rfl, rfl, rfl, by decide +kernel, rfl, by decide +kernel, by decide +kernel⟩
theorem ok_fewest (T : TxOk fa fn K mg base) : Df P w K mg base "fewest" 7 ["web"] [false] m_fewest := by
  refine dfOk (bd := b_fewest) T 19 19 sc_fewest (by decide) (fun _ _ _ _ _ _ us hl => match us, hl with | [_], _ => rfl) ?_
  intro f cdv A outer s H vs E hr
  have sc := sc_fewest
  exact pfs_cons (pfs_expr (pf_callD (ok_need_web T) (hr.mono (by decide)) (fun σ => passAt (takes_of rfl rfl rfl rfl) σ) (pf_cons (pf_var 0) (pf_nil))))
    (pfs_one (pfs_ret (pf_callD (ok_fewest_in T) (hr.mono (by decide)) (fun σ => passAt (takes_of rfl rfl rfl rfl) σ) (pf_cons (pf_var 0) (pf_nil)))))
theorem sc__law_awhole : FnScope ["found"] ["found"] (defScope s__law_awhole) := ⟨rfl, rfl, rfl, by decide +kernel, rfl, by decide +kernel, by decide +kernel⟩
theorem ok__law_awhole (T : TxOk fa fn K mg base) : Df P w K mg base "_law_awhole" 1 ["found"] [false] m__law_awhole := by
  refine dfOk (bd := b__law_awhole) T 20 20 sc__law_awhole (by decide) (fun _ _ _ _ _ _ us hl => match us, hl with | [_], _ => rfl) ?_
  intro f cdv A outer s H vs E hr
  have sc := sc__law_awhole
  exact pfs_one (pfs_ret (pf_and (pf_isinst .int (pf_var 0) (T.free 34) (T.free 35) bb_int) (pf_one (pf_not (pf_isinst .bool (pf_var 0) (T.free 34) (T.free 36) bb_bool)))))
theorem sc__law_asets : FnScope ["n", "found", "place", "some"] ["n"] (defScope s__law_asets) := ⟨rfl, rfl, rfl, by decide +kernel, rfl, by decide +kernel, by decide +kernel⟩
theorem ok__law_asets (T : TxOk fa fn K mg base) : Df P w K mg base "_law_asets" 1 ["n"] [false] m__law_asets := by
  refine dfOk (bd := b__law_asets) T 21 21 sc__law_asets (by decide) (fun _ _ _ _ _ _ us hl => match us, hl with | [_], _ => rfl) ?_
  intro f cdv A outer s H vs E hr
  have sc := sc__law_asets
  exact pfs_cons (pfs_set (i := 1) sc.nd (pf_lst (pf_cons (pf_tup (pf_nil)) (pf_nil))))
    (pfs_cons (pfs_for (ws := [2]) (wp := [2, 3]) (passes_of rfl) rfl (pfi_range1 rfl (T.free 31) (pf_cons (pf_var 0) (pf_nil))) (pfg_nm sc.nd) (pfs_one (pfs_set (i := 1) sc.nd (pf_op fop_add (pf_var 1) (pf_lc (own := [("some", 3)]) rfl sc.nd (pfi_seq (pf_var 1)) (blkOk_by (by rfl)) (fun s H C cl fp => pfg_nm sc.nd) (fun s H C cl fp => pfts_nil) (fun s H C cl fp => pf_op fop_add (pf_var 3) (pf_tup (pf_cons (pf_var 2) (pf_nil)))))))))
    (pfs_one (pfs_ret (pf_var 1))))
theorem sc__law_aparts_of : FnScope ["web", "some", "found", "place", "more", "piece", "one"] ["web", "some"] (defScope s__law_aparts_of) := ⟨rfl, rfl, rfl, by decide +kernel, rfl, by decide +kernel, by decide +kernel⟩
theorem ok__law_aparts_of (T : TxOk fa fn K mg base) : Df P w K mg base "_law_aparts_of" 1 ["web", "some"] [false, false] m__law_aparts_of := by
  refine dfOk (bd := b__law_aparts_of) T 22 22 sc__law_aparts_of (by decide) (fun _ _ _ _ _ _ us hl => match us, hl with | [_, _], _ => rfl) ?_
  intro f cdv A outer s H vs E hr
  have sc := sc__law_aparts_of
  exact pfs_cons (pfs_set (i := 2) sc.nd (pf_lst (pf_cons (pf_sl (pf_var 1) (pfo_none) (pfo_some (pf_int))) (pf_nil))))
    (pfs_cons (pfs_for (ws := [3]) (wp := [3, 4, 5, 6]) (passes_of rfl) rfl (pfi_seq (pf_sl (pf_var 1) (pfo_some (pf_int)) (pfo_none))) (pfg_nm sc.nd) (pfs_cons (pfs_set (i := 4) sc.nd (pf_lst (pf_nil)))
    (pfs_cons (pfs_for (ws := [5]) (wp := [5, 6]) (passes_of rfl) rfl (pfi_seq (pf_var 2)) (pfg_nm sc.nd) (pfs_one (pfs_if (pft_cmp (fop_eq hr.u64) (pf_lc (own := [("one", 6)]) rfl sc.nd (pfi_seq (pf_var 5)) (blkOk_by (by rfl)) (fun s H C cl fp => pfg_nm sc.nd) (fun s H C cl fp => pfts_one (pft_cmp (fop_inK hr.u65) (pf_tup (pf_cons (pf_var 6) (pf_cons (pf_var 3) (pf_nil)))) (pf_ix (fix_d2 hr.u1) (pf_var 0) (pf_int)) (by rfl))) (fun s H C cl fp => pf_var 6)) (pf_lst (pf_nil)) (nomark _)) (pfs_one (pfs_expr (pf_lm 4 PySem.F.slot_list_append PySem.F.type_list_append fm_append (pf_cons (pf_op fop_add (pf_var 5) (pf_tup (pf_cons (pf_var 3) (pf_nil)))) (pf_nil)) (pv 4)))) (pfs_nil))))
    (pfs_one (pfs_set (i := 2) sc.nd (pf_op fop_add (pf_var 2) (pf_var 4)))))))
    (pfs_one (pfs_ret (pf_var 2))))
theorem sc__law_aare_floors : FnScope ["web", "floors", "every", "some", "piece", "left", "place"] ["web", "floors"] (defScope s__law_aare_floors) := ⟨rfl, rfl, rfl, by decide +kernel, rfl, by decide +kernel, by decide +kernel⟩
theorem ok__law_aare_floors (T : TxOk fa fn K mg base) : Df P w K mg base "_law_aare_floors" 2 ["web", "floors"] [false, true] m__law_aare_floors := by
  refine dfOk (bd := b__law_aare_floors) T 23 23 sc__law_aare_floors (by decide) (fun _ _ _ _ _ _ us hl => match us, hl with | [_, _], _ => rfl) ?_
  intro f cdv A outer s H vs E hr
  have sc := sc__law_aare_floors
  exact pfs_cons (pfs_set (i := 2) sc.nd (pf_callD (ok__law_asets T) (hr.mono (by decide)) (fun σ => passAt (takes_of rfl rfl rfl rfl) σ) (pf_cons (pf_ix (fix_d2 hr.u1) (pf_var 0) (pf_int)) (pf_nil))))
    (pfs_cons (pfs_if (pft_W (pfw_or (pft_not (pft_B (pf_isinst .dict (pf_var 1) (T.free 34) (T.free 41) bb_dict))) (pfw_or1 (pft_cmp (fop_ne hr.u64) (pf_blt fb_len2 (T.free 33) bb_len (pf_cons (pf_var 1) (pf_nil))) (pf_blt fb_len (T.free 33) bb_len (pf_cons (pf_var 2) (pf_nil))) (nomark _))))) (pfs_one (pfs_ret (pf_bl))) (pfs_nil))
    (pfs_cons (pfs_if (pft_cmp (fop_ne hr.u64) (pf_lc (own := [("some", 3)]) rfl sc.nd (pfi_seq (pf_var 2)) (blkOk_by (by rfl)) (fun s H C cl fp => pfg_nm sc.nd) (fun s H C cl fp => pfts_one (pft_cmp (fop_notInK hr.u65) (pf_var 3) (pf_var 1) (by rfl))) (fun s H C cl fp => pf_var 3)) (pf_lst (pf_nil)) (nomark _)) (pfs_one (pfs_ret (pf_bl))) (pfs_nil))
    (pfs_cons (pfs_if (pft_W (pfw_or (pft_cmp (fop_inK hr.u65) (pf_bl) (pf_lc (own := [("some", 3)]) rfl sc.nd (pfi_seq (pf_var 2)) (blkOk_by (by rfl)) (fun s H C cl fp => pfg_nm sc.nd) (fun s H C cl fp => pfts_nil) (fun s H C cl fp => pf_callD (ok__law_awhole T) (hr.mono (by decide)) pass0At (pf_cons (pf_ix (fix_d2 hr.u1) (pf_var 1) (pf_var 3)) (pf_nil)))) (by rfl)) (pfw_or1 (pft_cmp fop_gt (pf_ix (fix_d2 hr.u1) (pf_var 1) (pf_tup (pf_nil))) (pf_int) (nomark _))))) (pfs_one (pfs_ret (pf_bl))) (pfs_nil))
    (pfs_cons (pfs_for (ws := [3]) (wp := [3, 4, 5, 6]) (passes_of rfl) rfl (pfi_seq (pf_sl (pf_var 2) (pfo_some (pf_int)) (pfo_none))) (pfg_nm sc.nd) (pfs_one (pfs_for (ws := [4]) (wp := [4, 5, 6]) (passes_of rfl) rfl (pfi_seq (pf_callD (ok__law_aparts_of T) (hr.mono (by decide)) (fun σ => passAt (takes_of rfl rfl rfl rfl) σ) (pf_cons (pf_var 0) (pf_cons (pf_var 3) (pf_nil))))) (pfg_nm sc.nd) (pfs_cons (pfs_set (i := 5) sc.nd (pf_bty fb_tuple (T.free 32) bb_tuple (pf_cons (pf_lc (own := [("place", 6)]) rfl sc.nd (pfi_seq (pf_var 3)) (blkOk_by (by rfl)) (fun s H C cl fp => pfg_nm sc.nd) (fun s H C cl fp => pfts_one (pft_cmp (fop_notInK hr.u65) (pf_var 6) (pf_var 4) (by rfl))) (fun s H C cl fp => pf_var 6)) (pf_nil))))
    (pfs_one (pfs_if (pft_cmp fop_gt (pf_ix (fix_d2 hr.u1) (pf_var 1) (pf_var 3)) (pf_op fop_add (pf_int) (pf_ix (fix_d2 hr.u1) (pf_var 1) (pf_var 5))) (nomark _)) (pfs_one (pfs_ret (pf_bl))) (pfs_nil)))))))
    (pfs_one (pfs_ret (pf_bl)))))))
theorem sc_are_hues : FnScope ["web", "hues", "hue", "one", "other"] ["web", "hues"] (defScope s_are_hues) := ⟨rfl, rfl, rfl, by decide +kernel, rfl, by decide +kernel, by decide +kernel⟩
theorem ok_are_hues (T : TxOk fa fn K mg base) : Df P w K mg base "are_hues" 7 ["web", "hues"] [false, false] m_are_hues := by
  refine dfOk (bd := b_are_hues) T 24 24 sc_are_hues (by decide) (fun _ _ _ _ _ _ us hl => match us, hl with | [_, _], _ => rfl) ?_
  intro f cdv A outer s H vs E hr
  have sc := sc_are_hues
  exact pfs_cons (pfs_expr (pf_callD (ok_need_web T) (hr.mono (by decide)) (fun σ => passAt (takes_of rfl rfl rfl rfl) σ) (pf_cons (pf_var 0) (pf_nil))))
    (pfs_cons (pfs_if (pft_W (pfw_or (pft_cmp (fop_ne hr.u64) (pf_blt fb_len (T.free 33) bb_len (pf_cons (pf_var 1) (pf_nil))) (pf_ix (fix_d2 hr.u1) (pf_var 0) (pf_int)) (nomark _)) (pfw_or1 (pft_not (pft_B (pf_blt (fb_all rfl) (T.free 37) bb_all (pf_cons (pf_lc (own := [("hue", 2)]) rfl sc.nd (pfi_seq (pf_var 1)) (blkOk_by (by rfl)) (fun s H C cl fp => pfg_nm sc.nd) (fun s H C cl fp => pfts_nil) (fun s H C cl fp => pf_cmp fop_ge (pf_var 2) (pf_int) (nomark _))) (pf_nil)))))))) (pfs_one (pfs_ret (pf_bl))) (pfs_nil))
    (pfs_one (pfs_ret (pf_blt (fb_all rfl) (T.free 37) bb_all (pf_cons (pf_lc (own := [("one", 3), ("other", 4)]) rfl sc.nd (pfi_seq (pf_ix (fix_d2 hr.u1) (pf_var 0) (pf_int))) (blkOk_by (by rfl)) (fun s H C cl fp => pfg_tup rfl (pfgs_cons (pfg_nm sc.nd) (pfgs_cons (pfg_nm sc.nd) (pfgs_nil))) rfl rfl tp2) (fun s H C cl fp => pfts_nil) (fun s H C cl fp => pf_cmp (fop_ne hr.u64) (pf_ix (fix_d2 hr.u1) (pf_var 1) (pf_var 3)) (pf_ix (fix_d2 hr.u1) (pf_var 1) (pf_var 4)) (nomark _))) (pf_nil))))))
theorem sc_are_floors : FnScope ["web", "floors", "number", "sets", "some", "part"] ["web", "floors", "number"] (defScope s_are_floors) := ⟨rfl, rfl, rfl, by decide +kernel, rfl, by decide +kernel, by decide +kernel⟩
theorem ok_are_floors (T : TxOk fa fn K mg base) : Df P w K mg base "are_floors" 7 ["web", "floors", "number"] [false, true, false] m_are_floors := by
  refine dfOk (bd := b_are_floors) T 25 25 sc_are_floors (by decide) (fun _ _ _ _ _ _ us hl => match us, hl with | [_, _, _], _ => rfl) ?_
  intro f cdv A outer s H vs E hr
  have sc := sc_are_floors
  exact pfs_cons (pfs_expr (pf_callD (ok_need_web T) (hr.mono (by decide)) (fun σ => passAt (takes_of rfl rfl rfl rfl) σ) (pf_cons (pf_var 0) (pf_nil))))
    (pfs_cons (pfs_set (i := 3) sc.nd (pf_callD (ok_all_sets T) (hr.mono (by decide)) (fun σ => passAt (takes_of rfl rfl rfl rfl) σ) (pf_cons (pf_ix (fix_d2 hr.u1) (pf_var 0) (pf_int)) (pf_nil))))
    (pfs_cons (pfs_if (pft_W (pfw_or (pft_cmp (fop_ne hr.u64) (pf_blt fb_len2 (T.free 33) bb_len (pf_cons (pf_var 1) (pf_nil))) (pf_blt fb_len (T.free 33) bb_len (pf_cons (pf_var 3) (pf_nil))) (nomark _)) (pfw_or1 (pft_not (pft_B (pf_blt (fb_all rfl) (T.free 37) bb_all (pf_cons (pf_lc (own := [("some", 4)]) rfl sc.nd (pfi_seq (pf_var 3)) (blkOk_by (by rfl)) (fun s H C cl fp => pfg_nm sc.nd) (fun s H C cl fp => pfts_nil) (fun s H C cl fp => pf_cmp (fop_inK hr.u65) (pf_var 4) (pf_var 1) (by rfl))) (pf_nil)))))))) (pfs_one (pfs_ret (pf_bl))) (pfs_nil))
    (pfs_cons (pfs_for (ws := [4]) (wp := [4, 5]) (passes_of rfl) rfl (pfi_seq (pf_var 3)) (pfg_nm sc.nd) (pfs_cons (pfs_if (pft_W (pfw_and (pft_cmp (fop_eq hr.u64) (pf_var 4) (pf_tup (pf_nil)) (nomark _)) (pfw_and1 (pft_cmp fop_gt (pf_ix (fix_d2 hr.u1) (pf_var 1) (pf_var 4)) (pf_int) (nomark _))))) (pfs_one (pfs_ret (pf_bl))) (pfs_nil))
    (pfs_one (pfs_if (pft_W (pfw_and (pft_cmp (fop_ne hr.u64) (pf_var 4) (pf_tup (pf_nil)) (nomark _)) (pfw_and1 (pft_not (pft_B (pf_blt (fb_all rfl) (T.free 37) bb_all (pf_cons (pf_lc (own := [("part", 5)]) rfl sc.nd (pfi_seq (pf_callD (ok_first_parts T) (hr.mono (by decide)) (fun σ => passAt (takes_of rfl rfl rfl rfl) σ) (pf_cons (pf_var 0) (pf_cons (pf_var 4) (pf_nil))))) (blkOk_by (by rfl)) (fun s H C cl fp => pfg_nm sc.nd) (fun s H C cl fp => pfts_nil) (fun s H C cl fp => pf_cmp fop_le (pf_ix (fix_d2 hr.u1) (pf_var 1) (pf_var 4)) (pf_op fop_add (pf_ix (fix_d2 hr.u1) (pf_var 1) (pf_callD (ok_without T) (hr.mono (by decide)) pass0At (pf_cons (pf_var 4) (pf_cons (pf_var 5) (pf_nil))))) (pf_int)) (nomark _))) (pf_nil)))))))) (pfs_one (pfs_ret (pf_bl))) (pfs_nil)))))
    (pfs_one (pfs_ret (pf_cmp fop_ge (pf_ix (fix_d2 hr.u1) (pf_var 1) (pf_ix (fix_d2 hr.u1) (pf_var 3) (pf_un fun_neg (pf_int)))) (pf_var 2) (nomark _)))))))
theorem sc__law_aright : FnScope ["web", "found", "k", "hues", "floors", "hue", "pair"] ["web"] (defScope s__law_aright) := ⟨rfl, rfl, rfl, by decide +kernel, rfl, by decide +kernel, by decide +kernel⟩
theorem ok__law_aright (T : TxOk fa fn K mg base) : Df P w K mg base "_law_aright" 8 ["web"] [false] m__law_aright := by
  refine dfOk (bd := b__law_aright) T 26 26 sc__law_aright (by decide) (fun _ _ _ _ _ _ us hl => match us, hl with | [_], _ => rfl) ?_
  intro f cdv A outer s H vs E hr
  have sc := sc__law_aright
  exact pfs_cons (pfs_set (i := 1) sc.nd (pf_callD (ok_fewest T) (hr.mono (by decide)) (fun σ => passAt (takes_of rfl rfl rfl rfl) σ) (pf_cons (pf_var 0) (pf_nil))))
    (pfs_cons (pfs_if (pft_W (pfw_or (pft_bor (pft_not (pft_B (pf_isinst .tuple (pf_var 1) (T.free 34) (T.free 32) bb_tuple)))) (pfw_or1 (pft_bor (pft_cmp (fop_ne hr.u64) (pf_blt fb_len (T.free 33) bb_len (pf_cons (pf_var 1) (pf_nil))) (pf_int) (nomark _)))))) (pfs_one (pfs_ret (pf_bl))) (pfs_nil))
    (pfs_cons (pfs_unpO rfl (pf_mov 1 (pv 1)) (pgo_cons (i := 2) sc.nd (pgo_cons (i := 3) sc.nd (pgo_cons (i := 4) sc.nd (pgo_nil)))))
    (pfs_cons (pfs_if (pft_W (pfw_or (pft_not (pft_B (pf_callD (ok__law_awhole T) (hr.mono (by decide)) (fun σ => passAt (takes_of rfl rfl rfl rfl) σ) (pf_cons (pf_var 2) (pf_nil))))) (pfw_or (pft_not (pft_B (pf_isinst .tuple (pf_var 3) (T.free 34) (T.free 32) bb_tuple))) (pfw_or1 (pft_cmp (fop_ne hr.u64) (pf_blt fb_len (T.free 33) bb_len (pf_cons (pf_var 3) (pf_nil))) (pf_ix (fix_d2 hr.u1) (pf_var 0) (pf_int)) (nomark _)))))) (pfs_one (pfs_ret (pf_bl))) (pfs_nil))
    (pfs_cons (pfs_if (pft_W (pfw_or (pft_cmp (fop_inK hr.u65) (pf_bl) (pf_lc (own := [("hue", 5)]) rfl sc.nd (pfi_seq (pf_var 3)) (blkOk_by (by rfl)) (fun s H C cl fp => pfg_nm sc.nd) (fun s H C cl fp => pfts_nil) (fun s H C cl fp => pf_callD (ok__law_awhole T) (hr.mono (by decide)) pass0At (pf_cons (pf_var 5) (pf_nil)))) (by rfl)) (pfw_or1 (pft_cmp (fop_ne hr.u64) (pf_sortedSet rfl (T.free 42) (T.free 43) (pf_cons (pf_var 3) (pf_nil))) (pf_lRg1 rfl (T.free 44) (T.free 31) (pf_var 2)) (nomark _))))) (pfs_one (pfs_ret (pf_bl))) (pfs_nil))
    (pfs_cons (pfs_if (pft_W (pfw_or (pft_cmp (fop_ne hr.u64) (pf_lc (own := [("pair", 6)]) rfl sc.nd (pfi_seq (pf_ix (fix_d2 hr.u1) (pf_var 0) (pf_int))) (blkOk_by (by rfl)) (fun s H C cl fp => pfg_nm sc.nd) (fun s H C cl fp => pfts_one (pft_cmp (fop_eq hr.u64) (pf_ix (fix_d2 hr.u1) (pf_var 3) (pf_ix (fix_d2 hr.u1) (pf_var 6) (pf_int))) (pf_ix (fix_d2 hr.u1) (pf_var 3) (pf_ix (fix_d2 hr.u1) (pf_var 6) (pf_int))) (nomark _))) (fun s H C cl fp => pf_var 6)) (pf_lst (pf_nil)) (nomark _)) (pfw_or1 (pft_bor (pft_not (pft_B (pf_callD (ok__law_aare_floors T) (hr.mono (by decide)) (fun σ => passAt (takes_of rfl rfl rfl rfl) σ) (pf_cons (pf_var 0) (pf_cons (pf_var 4) (pf_nil)))))))))) (pfs_one (pfs_ret (pf_bl))) (pfs_nil))
    (pfs_cons (pfs_if (pft_W (pfw_or (pft_bor (pft_cmp (fop_ne hr.u64) (pf_ix (fix_d2 hr.u1) (pf_var 4) (pf_tRg1 rfl (T.free 32) (T.free 31) (pf_ix (fix_d2 hr.u1) (pf_var 0) (pf_int)))) (pf_var 2) (nomark _))) (pfw_or1 (pft_cmp fop_isNot (pf_callD (ok_are_hues T) (hr.mono (by decide)) (fun σ => passAt (takes_of rfl rfl rfl rfl) σ) (pf_cons (pf_var 0) (pf_cons (pf_var 3) (pf_nil)))) (pf_bl) (nomark _))))) (pfs_one (pfs_ret (pf_bl))) (pfs_nil))
    (pfs_cons (pfs_if (pft_W (pfw_or (pft_bor (pft_cmp fop_isNot (pf_callD (ok_are_floors T) (hr.mono (by decide)) (fun σ => passAt (takes_of rfl rfl rfl rfl) σ) (pf_cons (pf_var 0) (pf_cons (pf_var 4) (pf_cons (pf_var 2) (pf_nil))))) (pf_bl) (nomark _))) (pfw_or1 (pft_bor (pft_cmp fop_isNot (pf_callD (ok_are_floors T) (hr.mono (by decide)) (fun σ => passAt (takes_of rfl rfl rfl rfl) σ) (pf_cons (pf_var 0) (pf_cons (pf_var 4) (pf_cons (pf_op fop_add (pf_var 2) (pf_int)) (pf_nil))))) (pf_bl) (nomark _)))))) (pfs_one (pfs_ret (pf_bl))) (pfs_nil))
    (pfs_cons (pfs_expr (pf_dclr 4 (pv 4)))
    (pfs_one (pfs_ret (pf_bl)))))))))))
theorem sc_law : FnScope ["script", "start", "web", "turn"] ["script"] (defScope s_law) := ⟨rfl, rfl, rfl, by decide +kernel, rfl, by decide +kernel, by decide +kernel⟩
theorem lawFn (T : TxOk fa fn K mg base) {f : Addr} {fd : FuncData} (F : FunD K "law" "law" (defArgs s_law) (defBody s_law) (defScope s_law) [] [] f fd) : FnOk P w K mg base (L2.CX P w) 9 f fd ["script"] (liftSp K mg (ioOf [false]) 1 m_law) := by
  refine okF (bd := b_law) (funOf F) sc_law (by decide) ?_
  intro cdv A outer s H vs E hr
  have sc := sc_law
  exact pfs_cons (pfs_for (ws := [1]) (wp := [1, 2, 3]) (passes_of rfl) rfl (pfi_range2 rfl (T.free 31) (pf_cons (pf_int) (pf_cons (pf_blt (fb_max2 rfl) (T.free 38) bb_max (pf_cons (pf_int) (pf_cons (pf_blt (fb_min2 rfl) (T.free 39) bb_min (pf_cons (pf_int) (pf_cons (pf_blt fb_len (T.free 33) bb_len (pf_cons (pf_var 0) (pf_nil))) (pf_nil)))) (pf_nil)))) (pf_nil)))) (pfg_nm sc.nd) (pfs_cons (pfs_set (i := 2) sc.nd (pf_callD (ok__law_aweb_of T) (hr.mono (by decide)) (fun σ => passAt (takes_of rfl rfl rfl rfl) σ) (pf_cons (pf_var 0) (pf_cons (pf_var 1) (pf_cons (pf_callD (ok__law_atape T) (hr.mono (by decide)) (fun σ => passAt (takes_of rfl rfl rfl rfl) σ) (pf_cons (pf_var 0) (pf_cons (pf_var 1) (pf_nil)))) (pf_nil))))))
    (pfs_one (pfs_for (ws := [3]) (wp := [3]) (passes_of rfl) rfl (pfi_range1 rfl (T.free 31) (pf_cons (pf_op fop_add (pf_int) (pf_bty fb_int (T.free 35) bb_int (pf_cons (pf_cmp (fop_lt hr.units0) (pf_ix (fix_d2 hr.u1) (pf_var 2) (pf_int)) (pf_int) (nomark _)) (pf_nil)))) (pf_nil))) (pfg_nm sc.nd) (pfs_one (pfs_if (pft_not (pft_B (pf_callD (ok__law_aright T) (hr.mono (by decide)) (fun σ => passAt (takes_of rfl rfl rfl rfl) σ) (pf_cons (pf_var 2) (pf_nil))))) (pfs_one (pfs_ret (pf_bl))) (pfs_nil)))))))
    (pfs_one (pfs_ret (pf_bl)))
end
end Lk22
namespace Lk22
open PySem PySem.Spec PyProof.Rows L2 Hs
def nm0 : List PySem.Str := ["HueError", "NoWeb", "is_whole", "is_below", "is_tie", "is_rising", "are_ties", "is_web", "need_web", "tied_in", "all_sets", "without", "first_parts", "floors_in", "hues_by", "fewest_in", "fewest", "are_hues", "are_floors", "_law_acell", "_law_atape", "_law_adigit", "_law_awhole", "_law_aweb", "_law_asets", "_law_aweb_of", "_law_aparts_of", "_law_aare_floors", "_law_aright", "MOST_PLACES"]
def nm : List PySem.Str := nm0
abbrev Rw : PySem.W.OpenRow := PySem.W.OpenLaw.row PySem.Challenge.rw_hueshare_k22_whole_hues_told
abbrev hk : PySem.W.Hook := He.hookD 5 fa fn
def ob (s : PySem.W.SharedT) : He.AlD := He.obsDG 5 fa fn (HandSHeadRun.getT s)
theorem ob_eq (s : PySem.W.SharedT) : ob s = hk.obs s.abs := He.obsDG_eq (HandSHeadRun.getT_eq s)
set_option maxHeartbeats 0 in
theorem run (w : World) : HandSHeadRun.RunEq Rw (PySem.W.view Rw.prog [34]) hk ob 4000 nm w := by
  intro os
  kernel_rfl
theorem facts {P : Program} {w : World} {K : PySem.W.Frag} {h : Heap} {mg : Str → Option Value} {f : Addr} (X : K.In h) (G : h.Ns mainGlobals mg) (hfa : mg ("law" : Str) = some (.ref f)) (c : He.SaysD fa fn K) :
    ∃ fd : FuncData, (∀ (s : Shared) (u : Value), BindsTo s fd ⟨[u], []⟩ [("script", u)]) ∧ ∀ base : Heap, K.In base → base.Ns mainGlobals mg → FnOk P w K mg base (L2.CX P w) 9 f fd ["script"] (liftSp K mg (ioOf [false]) 1 m_law) := by
  obtain ⟨fd, F⟩ := c.def_ 27 (d := dOf "law" s_law) rfl
  have T0 : TxOk fa fn K mg h := ⟨c, X, G⟩
  have e := hfa.symm.trans (T0.glo 27)
  cases e
  have b := FunD.bindsA (ps := ["script"]) F fun _ _ _ _ _ _ us hl => match us, hl with | [_], _ => rfl
  refine ⟨fd, fun s u => b s [u] rfl, fun base hX hG => ?_⟩
  exact lawFn ⟨c, hX, hG⟩ F
end Lk22
namespace Lk22
open PySem Hs
local macro_rules
  | `(tactic| sizeOf_list_dec) => `(tactic| first
    | with_reducible refine st_seq ?_ | with_reducible refine st_asg ?_ | with_reducible refine st_cons ?_ | with_reducible refine st_nil ?_ | with_reducible refine st_C ?_ | with_reducible refine st_op ?_
    | with_reducible refine st_var_d ?_ | with_reducible refine st_var_l ?_ | with_reducible refine st_var_ll ?_ | with_reducible refine st_var_dc ?_
    | with_reducible refine st_look_d ?_ | with_reducible refine st_look_top ?_ | with_reducible refine st_look_top_d ?_ | with_reducible refine st_look_own ?_ | with_reducible refine st_look_top_dc ?_ | with_reducible refine st_look_own_dc ?_ | with_reducible refine st_put_d ?_ | with_reducible refine st_put_own ?_ | with_reducible refine st_put_top_l ?_ | with_reducible refine st_put_top_ll ?_ | with_reducible refine st_put_top_dc ?_
    | ((with_reducible refine st_callF ?_ ?_); eq_refl) | with_reducible refine st_call ?_ | with_reducible refine st_putK_nil ?_ | with_reducible refine st_putK_t ?_ | with_reducible refine st_putK_f ?_ | with_reducible refine st_putK_td ?_ | with_reducible refine st_putK_to ?_ | with_reducible refine st_bind_nil ?_ | with_reducible refine st_bind_f ?_ | with_reducible refine st_bind_tt ?_ | with_reducible refine st_bind_td ?_ | with_reducible refine st_bind_to ?_
    | with_reducible refine st_frz_d ?_ | with_reducible refine st_frz_own ?_ | with_reducible refine st_frz_top ?_ | with_reducible refine st_frz_own_ll ?_ | with_reducible refine st_frz_own_dc ?_ | with_reducible refine st_frz_top_ll ?_ | with_reducible refine st_frz_top_dc ?_ | with_reducible refine st_frzAll_nil ?_ | with_reducible refine st_frzAll_cons ?_
    | with_reducible refine st_if ?_ | with_reducible refine st_B ?_ | with_reducible refine st_and ?_ | with_reducible refine st_or ?_ | with_reducible refine st_not ?_ | with_reducible refine st_yes ?_ | with_reducible refine st_isB ?_ | with_reducible refine st_t ?_ | with_reducible refine st_f ?_ | ((with_reducible refine st_iteT ?_ ?_); decide) | ((with_reducible refine st_iteF ?_ ?_); decide)
    | with_reducible refine st_nt ?_ | with_reducible refine st_nf ?_
    | with_reducible refine st_ret ?_ | with_reducible refine st_next ?_ | with_reducible refine st_retN ?_ | with_reducible refine st_drop ?_ | with_reducible refine st_break ?_ | with_reducible refine st_raise ?_
    | with_reducible refine st_out_d ?_ | with_reducible refine st_out_own ?_ | with_reducible refine st_out_top ?_
    | with_reducible refine st_tup ?_ | with_reducible refine st_lst ?_ | with_reducible refine st_un ?_ | with_reducible refine st_blt ?_ | with_reducible refine st_lookAll_nil ?_ | with_reducible refine st_lookAll_cons ?_
    | with_reducible refine st_unp ?_ | with_reducible refine st_par ?_ | with_reducible refine st_setIx ?_ | with_reducible refine st_onL ?_ | with_reducible refine st_for ?_ | with_reducible refine st_wipe_nil ?_ | with_reducible refine st_wipe_cons ?_ | with_reducible refine st_andV ?_ | with_reducible refine st_orV ?_ | with_reducible refine st_notV ?_ | with_reducible refine st_ifE ?_ | with_reducible refine st_chain ?_
    | with_reducible refine st_sl ?_ | with_reducible refine st_noPart ?_ | with_reducible refine st_part ?_ | with_reducible refine st_lc ?_ | with_reducible refine st_lm ?_
    | with_reducible refine st_seqI ?_ | with_reducible refine st_range1 ?_ | with_reducible refine st_range2 ?_ | with_reducible refine st_enum ?_ | with_reducible refine st_zip ?_
    | with_reducible refine st_nm ?_ | with_reducible refine st_tp ?_ | with_reducible refine st_tps_nil ?_ | with_reducible refine st_tps_cons ?_
    | ((with_reducible refine st_mod_i ?_ ?_); (first | decide | omega)) | ((with_reducible refine st_fdiv_i ?_ ?_); decide) 
    | with_reducible refine st_add_i ?_ | with_reducible refine st_sub_i ?_ | with_reducible refine st_neg_i ?_ | with_reducible refine st_eq_i ?_ | with_reducible refine st_ne_i ?_ | with_reducible refine st_eq_str ?_ | with_reducible refine st_ne_str ?_ | with_reducible refine st_eq_b ?_ | with_reducible refine st_ne_b ?_ | with_reducible refine st_lt_i ?_ | with_reducible refine st_le_i ?_ | with_reducible refine st_gt_i ?_ | with_reducible refine st_ge_i ?_
    | with_reducible refine st_is_n ?_ | with_reducible refine st_isNot_n ?_ | with_reducible refine st_is_b ?_ | with_reducible refine st_isNot_b ?_ | ((with_reducible refine st_ix_l (x := ?_) ?_ ?_); rotate_left; eq_refl) | ((with_reducible refine st_ix_t (x := ?_) ?_ ?_); rotate_left; eq_refl) | with_reducible refine st_len_l ?_ | with_reducible refine st_len_t ?_ | with_reducible refine st_len_lit ?_
    | with_reducible refine st_abs ?_ | with_reducible refine st_max2 ?_ | with_reducible refine st_min2 ?_ | with_reducible refine st_int_i ?_ | with_reducible refine st_int_b ?_ | with_reducible refine st_tuple_l ?_ | with_reducible refine st_tuple_t ?_ | with_reducible refine st_list_l ?_ | with_reducible refine st_list_t ?_ | ((with_reducible refine st_isT ?_ ?_); eq_refl) | ((with_reducible refine st_isTT ?_ ?_); eq_refl) | ((with_reducible refine st_isTF ?_ ?_); eq_refl) | ((with_reducible refine st_isNT ?_ ?_); eq_refl) | ((with_reducible refine st_isNF ?_ ?_); eq_refl)
    | with_reducible refine st_rg1 ?_ | with_reducible refine st_rg2 ?_ | with_reducible refine st_enumL ?_ | with_reducible refine st_zipS ?_ | with_reducible refine st_rev_l ?_ | with_reducible refine st_rev_t ?_
    | with_reducible refine st_ne_ll ?_ | with_reducible refine st_ne_lit ?_ | with_reducible refine st_in_pt ?_ | with_reducible refine st_in_pl ?_
    | with_reducible refine st_sl_l ?_ | with_reducible refine st_sl_t ?_
    | ((with_reducible refine st_iteLen ?_ ?_); eq_refl) | ((with_reducible refine st_iteNLen ?_ ?_); eq_refl) | with_reducible refine st_iteBB ?_ | ((with_reducible refine st_iteND ?_ ?_); omega) | ((with_reducible refine st_iteNF ?_ ?_); omega)
    | ((with_reducible refine st_iteT (decide_eq_true ?_) ?_); omega) | ((with_reducible refine st_iteF (decide_eq_false ?_) ?_); omega))
local macro_rules
  | `(tactic| array_get_dec) => `(tactic| repeat sizeOf_list_dec)
/-! ### dicts, steps -/
local macro_rules
  | `(tactic| sizeOf_list_dec) => `(tactic| first | with_reducible refine st_ix2_l ?_ | with_reducible refine st_ix2_t ?_ | with_reducible refine st_ix2_s ?_ | with_reducible refine st_ix2_lit ?_ | with_reducible refine st_inK_l ?_ | with_reducible refine st_inK_t ?_ | with_reducible refine st_ninK_l ?_ | with_reducible refine st_ninK_t ?_ | with_reducible refine st_setD ?_ | with_reducible refine st_onDc ?_ | with_reducible refine st_dget2 ?_ | with_reducible refine st_emT ?_ | with_reducible refine st_emD ?_ | with_reducible refine st_disp1 ?_ | with_reducible refine st_disp1k ?_ | with_reducible refine st_range3 ?_ | with_reducible refine st_bor ?_ | with_reducible refine st_borT ?_ | with_reducible refine st_bindT_nil ?_ | with_reducible refine st_bindT_d ?_ | with_reducible refine st_bindT_o ?_ | with_reducible refine st_bindT_t ?_ | with_reducible refine st_toPs_nil ?_ | with_reducible refine st_toPs_d ?_ | with_reducible refine st_toPs_l ?_ | with_reducible refine st_toPs_dc ?_ | with_reducible refine st_tupO ?_ | with_reducible refine st_var_tp ?_ | with_reducible refine st_frz_own_tp ?_ | with_reducible refine st_frz_top_tp ?_ | with_reducible refine st_lmP ?_ | ((with_reducible refine st_onP ?_ ?_); eq_refl) | with_reducible refine st_flat_b ?_ | with_reducible refine st_flat_i ?_)
/-! ### own tuples unpacked -/
local macro_rules
  | `(tactic| sizeOf_list_dec) => `(tactic| first | with_reducible refine st_unpO ?_ | with_reducible refine st_unpK ?_ | with_reducible refine st_gO_d ?_ | with_reducible refine st_gO_l ?_ | with_reducible refine st_gO_dc ?_ | with_reducible refine st_gO_nil ?_)
theorem is_whole_ok {z : Int} {X : XF} {Q : R → S → Prop} (h : ∀ fin, Q (.d (.bool true)) fin) : m_is_whole [.d (.int z)] X Q := by
  unfold m_is_whole b_is_whole
  refine st_sem rfl ?_
  array_get_dec
  exact h _
local macro_rules
  | `(tactic| sizeOf_list_dec) => `(tactic| with_reducible refine is_whole_ok fun _ => ?_)
theorem is_below_ok {z m : Int} {X : XF} {Q : R → S → Prop} (h : ∀ fin, Q (.d (.bool (decide (0 ≤ z ∧ z < m)))) fin) : m_is_below [.d (.int z), .d (.int m)] X Q := by
  unfold m_is_below b_is_below
  refine st_sem rfl ?_
  array_get_dec
  refine st_ite (fun q => ?_) (fun q => ?_)
  · have q := of_decide_eq_true q
    array_get_dec
    rw [show decide (z < m) = decide (0 ≤ z ∧ z < m) by simp [q]]
    exact h _
  · have q := of_decide_eq_false q
    array_get_dec
    rw [show false = decide (0 ≤ z ∧ z < m) by simp [q]]
    exact h _
theorem is_tie_ok {n : Int} {p : Int × Int} (hp : 0 ≤ p.1 ∧ p.1 < p.2 ∧ p.2 < n) {X : XF} {Q : R → S → Prop} (h : ∀ fin, Q (.d (.bool true)) fin) : m_is_tie [.d (.int n), .d (pairD p)] X Q := by
  unfold m_is_tie b_is_tie
  refine st_sem rfl ?_
  array_get_dec
  refine is_below_ok fun fin => ?_
  rw [decide_eq_true (show 0 ≤ p.1 ∧ p.1 < n by omega)]
  array_get_dec
  refine is_below_ok fun fin => ?_
  rw [decide_eq_true (show 0 ≤ p.2 ∧ p.2 < n by omega)]
  array_get_dec
  rw [decide_eq_true hp.2.1]
  exact h _
theorem is_rising_ok {ts : List (Int × Int)} (hs : ts.Pairwise (fun p q => ltPr p q = true)) (hl : ts.length ≤ 1000) {X : XF} {Q : R → S → Prop} (h : ∀ fin, Q (.d (.bool true)) fin) : m_is_rising [.d (.tuple (ts.map pairD))] X Q := by
  unfold m_is_rising b_is_rising
  refine st_sem rfl ?_
  array_get_dec
  rw [List.length_map]
  refine ⟨by unfold lim62; omega, ?_⟩
  array_get_dec
  refine ⟨by rw [rangeD_len]; show _ ≤ 16777216; omega, ?_⟩
  array_get_dec
  refine comp_true (fun x hx kT hk => ?_) ?_
  · obtain ⟨t, ht, rfl⟩ := List.mem_map.mp (show x ∈ (List.range ((ts.length : Int) - 1).toNat).map fun (k : Nat) => PyData.int (0 + (k : Int)) from hx)
    have ht := List.mem_range.mp ht
    have h1 : t < ts.length := by omega
    have h2 : t + 1 < ts.length := by omega
    have g1 : L2.atI (ts.map pairD) (0 + (t : Int)) = some (pairD ts[t]) := by
      rw [Int.zero_add]
      exact L2.atI_nat (by rw [List.getElem?_map, List.getElem?_eq_getElem h1]; rfl)
    have g2 : L2.atI (ts.map pairD) (0 + (t : Int) + 1) = some (pairD ts[t + 1]) := by
      rw [Int.zero_add]
      exact L2.atI_nat (j := t + 1) (by rw [List.getElem?_map, List.getElem?_eq_getElem h2]; rfl)
    array_get_dec
    refine st_ix_t g1 ?_
    array_get_dec
    refine st_ix_t g2 ?_
    array_get_dec
    refine st_lt_t (ns := [ts[t].1, ts[t].2]) (ms := [ts[t + 1].1, ts[t + 1].2]) rfl rfl ?_
    rw [lex_pair, List.pairwise_iff_getElem.mp hs t (t + 1) h1 h2 (Nat.lt_succ_self t)]
    array_get_dec
    exact hk
  · array_get_dec
    refine st_all_true ?_
    array_get_dec
    exact h _
theorem are_ties_ok {n : Int} {ts : List (Int × Int)} (g : Good n ts) {X : XF} {Q : R → S → Prop} (h : ∀ fin, Q (.d (.bool true)) fin) : m_are_ties [.d (.int n), .d (.tuple (ts.map pairD))] X Q := by
  unfold m_are_ties b_are_ties
  refine st_sem rfl ?_
  array_get_dec
  refine ⟨by rw [List.length_map]; have := g.few; show _ ≤ 16777216; omega, ?_⟩
  array_get_dec
  refine comp_true (fun x hx kT hk => ?_) ?_
  · obtain ⟨p, hp, rfl⟩ := List.mem_map.mp hx
    array_get_dec
    refine is_tie_ok (g.ties p hp) fun fin => ?_
    array_get_dec
    exact hk
  · array_get_dec
    refine st_all_true ?_
    array_get_dec
    refine is_rising_ok g.up g.few fun fin => ?_
    array_get_dec
    exact h _
theorem is_web_ok {n : Int} {ts : List (Int × Int)} (g : Good n ts) {X : XF} {Q : R → S → Prop} (h : ∀ fin, Q (.d (.bool true)) fin) : m_is_web [.d (webD n ts)] X Q := by
  unfold m_is_web b_is_web
  refine st_sem rfl ?_
  have h1 := g.n0
  have h2 := g.n10
  array_get_dec
  refine is_below_ok fun fin => ?_
  rw [decide_eq_true (show 0 ≤ n ∧ n < 10 + 1 by omega)]
  array_get_dec
  refine are_ties_ok g fun fin => ?_
  array_get_dec
  exact h _
theorem need_web_ok {n : Int} {ts : List (Int × Int)} (g : Good n ts) {X : XF} {Q : R → S → Prop} (h : ∀ fin, Q (.d .none) fin) : m_need_web [.d (webD n ts)] X Q := by
  unfold m_need_web b_need_web
  refine st_sem rfl ?_
  array_get_dec
  refine is_web_ok g fun fin => ?_
  array_get_dec
  exact h _
def Tb (ts : List (Int × Int)) (a b : Int) : Bool := decide ((min a b, max a b) ∈ ts)
theorem Tb_symm {ts : List (Int × Int)} {a b : Int} : Tb ts a b = Tb ts b a := by
  unfold Tb
  rw [Int.min_comm, Int.max_comm]
theorem tied_in_ok {n a b : Int} {ts : List (Int × Int)} {X : XF} {Q : R → S → Prop} (h : ∀ fin, Q (.d (.bool (decide ((min a b, max a b) ∈ ts)))) fin) : m_tied_in [.d (webD n ts), .d (.int a), .d (.int b)] X Q := by
  unfold m_tied_in b_tied_in
  refine st_sem rfl ?_
  array_get_dec
  exact h _
theorem cut_to {α : Type} {f : α → D} {ks : List α} {i : Nat} : slD.cutL (ks.map f) none (some (i : Int)) = (ks.take i).map f := by
  unfold slD.cutL
  rw [HT.sIx_none, HT.sIx_nat, List.length_map, Nat.sub_zero, List.drop_zero, ← List.map_take]
  congr 1
  by_cases h : i ≤ ks.length
  · rw [Nat.min_eq_left h]
  · rw [Nat.min_eq_right (by omega), List.take_of_length_le (by omega), List.take_of_length_le (by omega)]
theorem cut_from {α : Type} {f : α → D} {ks : List α} {i : Nat} : slD.cutL (ks.map f) (some (i : Int)) none = (ks.drop i).map f := by
  unfold slD.cutL
  rw [HT.sIx_none, HT.sIx_nat, List.length_map, ← List.map_drop, ← List.map_take]
  congr 1
  by_cases h : i ≤ ks.length
  · rw [Nat.min_eq_left h, List.take_of_length_le (by rw [List.length_drop]; omega)]
  · rw [Nat.min_eq_right (by omega), List.drop_eq_nil_of_le (by omega), List.drop_eq_nil_of_le (by omega), List.take_nil]
theorem enum_map {α : Type} [Inhabited α] {f : α → D} {ks : List α} {i : Nat} (h : i ≤ ks.length) : enumD ((ks.take i).map f) = (List.range i).map fun (j : Nat) => .tuple [.int (j : Int), f (ks.getD j default)] := by
  unfold enumD
  apply List.ext_getElem
  · simp; omega
  · intro n h1 h2
    have h3 : n < i := by simpa using h2
    simp [List.getElem?_eq_getElem (show n < ks.length by omega)]
theorem enum_ints {ks : List Int} {i : Nat} (h : i ≤ ks.length) : enumD ((ks.take i).map PyData.int) = (List.range i).map fun (j : Nat) => .tuple [.int (j : Int), .int (atZ ks (j : Int))] := enum_map h
theorem enum_ints' {ks : List Int} : enumD (ks.map PyData.int) = (List.range ks.length).map fun (j : Nat) => .tuple [.int (j : Int), .int (atZ ks (j : Int))] := by
  have h := enum_ints (ks := ks) (i := ks.length) (Nat.le_refl _)
  rw [List.take_length] at h
  exact h
theorem loop_nat {nx bk ct : S → Prop} {rt : R → S → Prop} {xx : XF} {f1 : FS} {fg : FG} {wp : List Nat} {g : Nat → D} {n : Nat} (I : Nat → S → Prop) (hend : ∀ s, I n s → nx s)
    (hstep : ∀ i s (k : S → Prop), i < n → I i s → (∀ s', I (i + 1) s' → k s') → fg (g i) s fun s1 => f1 ⟨fun s2 => k (wipeS s2 wp), rt, fun s2 => wipeK s2 wp nx, fun s2 => k (wipeS s2 wp), xx⟩ s1) {s : S} (h0 : I 0 s) : fLoop fg wp f1 ⟨nx, rt, bk, ct, xx⟩ ((List.range n).map g) s := by
  have go : ∀ (m i : Nat) (s : S), i + m = n → I i s → fLoop fg wp f1 ⟨nx, rt, bk, ct, xx⟩ ((List.range' i m).map g) s := by
    intro m
    induction m with
    | zero => intro i s e h; exact hend s (by rw [Nat.add_zero] at e; rw [← e]; exact h)
    | succ m ih =>
      intro i s e h
      rw [List.range'_succ, List.map_cons]
      exact hstep i s (fLoop fg wp f1 ⟨nx, rt, bk, ct, xx⟩ ((List.range' (i + 1) m).map g)) (by omega) h fun s' h' => ih (i + 1) s' (by omega) h'
  rw [List.range_eq_range']
  exact go n 0 s (by omega) h0
theorem any_int {ks : List Int} {z : Int} : ((ks.map PyData.int).any fun y => PyData.eqv y (.int z)) = decide (z ∈ ks) := by
  rw [List.any_map]
  apply Bool.eq_iff_iff.mpr
  simp only [List.any_eq_true, Function.comp, decide_eq_true_eq]
  constructor
  · rintro ⟨y, h, e⟩
    have e : decide (y = z) = true := by simpa [PyData.eqv] using e
    rw [← of_decide_eq_true e]; exact h
  · intro h; exact ⟨z, h, by simp [PyData.eqv]⟩
theorem st_in_il {ks : List Int} {z : Int} {k : R → Prop} (h : k (.d (.bool (decide (z ∈ ks))))) : cIn (.int z) (.list (ks.map .int)) k := by
  refine st_in_l shaped_int shaped_intsL ?_
  rw [any_int]; exact h
theorem st_in_it {ks : List Int} {z : Int} {k : R → Prop} (h : k (.d (.bool (decide (z ∈ ks))))) : cIn (.int z) (.tuple (ks.map .int)) k := by
  refine st_in_t shaped_int shaped_intsT ?_
  rw [any_int]; exact h
theorem st_notIn_il {ks : List Int} {z : Int} {k : R → Prop} (h : k (.d (.bool (!decide (z ∈ ks))))) : cNotIn (.int z) (.list (ks.map .int)) k := by
  refine st_notIn_l shaped_int shaped_intsL ?_
  rw [any_int]; exact h
theorem st_notIn_it {ks : List Int} {z : Int} {k : R → Prop} (h : k (.d (.bool (!decide (z ∈ ks))))) : cNotIn (.int z) (.tuple (ks.map .int)) k := by
  refine st_notIn_t shaped_int shaped_intsT ?_
  rw [any_int]; exact h
theorem nodup_atZ {ks : List Int} : ks.Nodup ↔ ∀ a b : Nat, b < a → a < ks.length → atZ ks b ≠ atZ ks a := by
  unfold List.Nodup
  rw [List.pairwise_iff_getElem]
  constructor
  · intro h a b hb ha e
    refine h b a (by omega) ha hb ?_
    simpa [atZ, List.getD_eq_getElem?_getD, List.getElem?_eq_getElem ha, List.getElem?_eq_getElem (show b < ks.length by omega)] using e
  · intro h i j hi hj hij e
    refine h j i hij hj ?_
    simpa [atZ, List.getD_eq_getElem?_getD, List.getElem?_eq_getElem hi, List.getElem?_eq_getElem hj] using e
theorem mem_take_atZ {ks : List Int} {i : Nat} {z : Int} (h : i ≤ ks.length) : z ∈ ks.take i ↔ ∃ j : Nat, j < i ∧ atZ ks j = z := by
  rw [List.mem_iff_getElem]
  constructor
  · rintro ⟨j, hj, e⟩
    have hj2 : j < i := by simp at hj; omega
    refine ⟨j, hj2, ?_⟩
    rw [← e]
    simp [atZ, List.getD_eq_getElem?_getD, List.getElem?_eq_getElem (show j < ks.length by omega)]
  · rintro ⟨j, hj, e⟩
    refine ⟨j, by simp; omega, ?_⟩
    rw [← e]
    simp [atZ, List.getD_eq_getElem?_getD, List.getElem?_eq_getElem (show j < ks.length by omega)]
theorem atZ_in {ks : List Int} {i : Nat} (h : i < ks.length) : atZ ks (i : Int) ∈ ks := by
  simp [atZ, List.getD_eq_getElem?_getD, List.getElem?_eq_getElem h]
local macro_rules
  | `(tactic| sizeOf_list_dec) => `(tactic| first | with_reducible refine st_in_il ?_ | with_reducible refine st_in_it ?_ | with_reducible refine st_notIn_il ?_ | with_reducible refine st_notIn_it ?_ | with_reducible refine st_ne_ll ?_)
noncomputable def dec (P : Prop) : Bool := @decide P (Classical.propDecidable P)
theorem dec_t {P : Prop} (h : P) : dec P = true := by unfold dec; simp [h]
theorem dec_f {P : Prop} (h : ¬ P) : dec P = false := by unfold dec; simp [h]
theorem atZ_last {ks : List Int} (h : 0 < ks.length) : L2.atI (ks.map PyData.int) (-1) = some (.int (atZ ks ((ks.length : Int) - 1))) := by
  have e := atZ_ok (ks := ks) (i := (ks.length : Int) - 1) (by omega) (by omega)
  have q : L2.ixN (ks.map PyData.int).length (-1) = L2.ixN (ks.map PyData.int).length ((ks.length : Int) - 1) := by
    unfold L2.ixN
    rw [List.length_map, if_neg (by omega), if_pos (by omega), if_pos (by omega), if_pos (by omega)]
    congr 2
  unfold L2.atI at e ⊢
  rw [q]; exact e
def IL (m : Nat) (d : D) : Prop := ∃ ks : List Int, d = .list (ks.map .int) ∧ ks.length ≤ m
theorem cut_any {ks : List Int} {lo hi : Option Int} : ∃ ls : List Int, slD.cutL (ks.map PyData.int) lo hi = ls.map PyData.int ∧ ls.Sublist ks := by
  unfold slD.cutL
  rw [List.length_map, ← List.map_drop, ← List.map_take]
  exact ⟨_, rfl, (List.take_sublist _ _).trans (List.drop_sublist _ _)⟩
/-! ### sorted rows of pairs, by what is in them -/
def Up (ps : List (Int × Int)) : Prop := ps.Pairwise (fun p q => ltPr p q = true)
theorem ltPr_iff {p q : Int × Int} : ltPr p q = true ↔ p.1 < q.1 ∨ p.1 = q.1 ∧ p.2 < q.2 := by
  unfold ltPr
  simp only [Bool.or_eq_true, decide_eq_true_eq, Bool.and_eq_true, beq_iff_eq]
theorem Up.nodup {ps : List (Int × Int)} (h : Up ps) : ps.Nodup := h.imp fun {a b} h e => by
  subst e
  have := ltPr_iff.mp h
  omega
theorem up_eq : ∀ {ps qs : List (Int × Int)}, Up ps → Up qs → (∀ p, p ∈ ps ↔ p ∈ qs) → ps = qs
  | [], [], _, _, _ => rfl
  | [], q :: qs, _, _, h => nomatch (h q).mpr List.mem_cons_self
  | p :: ps, [], _, _, h => nomatch (h p).mp List.mem_cons_self
  | p :: ps, q :: qs, h1, h2, h => by
    obtain ⟨a1, a2⟩ := List.pairwise_cons.mp h1
    obtain ⟨b1, b2⟩ := List.pairwise_cons.mp h2
    have e : p = q := by
      rcases List.mem_cons.mp ((h p).mp List.mem_cons_self) with e | hp
      · exact e
      · rcases List.mem_cons.mp ((h q).mpr List.mem_cons_self) with e | hq
        · exact e.symm
        · have c1 := ltPr_iff.mp (b1 p hp)
          have c2 := ltPr_iff.mp (a1 q hq)
          omega
    subst e
    rw [up_eq a2 b2 fun r => ?_]
    constructor
    · intro hr
      rcases List.mem_cons.mp ((h r).mp (List.mem_cons_of_mem _ hr)) with e | hr2
      · subst e
        have := ltPr_iff.mp (a1 r hr); omega
      · exact hr2
    · intro hr
      rcases List.mem_cons.mp ((h r).mpr (List.mem_cons_of_mem _ hr)) with e | hr2
      · subst e
        have := ltPr_iff.mp (b1 r hr); omega
      · exact hr2
/-- the rows gone through up to (i, j): just the pairs for which f says yes -/
structure Upto (n : Int) (f : Int → Int → Prop) (i j : Int) (ts : List (Int × Int)) : Prop where
  up : Up ts
  mem : ∀ p, p ∈ ts ↔ 0 ≤ p.1 ∧ p.1 < p.2 ∧ p.2 < n ∧ f p.1 p.2 ∧ (p.1 < i ∨ p.1 = i ∧ p.2 < j)
  few : (ts.length : Int) ≤ 10 * i + j
theorem Upto.start {n : Int} {f : Int → Int → Prop} : Upto n f 0 0 [] := ⟨.nil, fun p => ⟨fun h => (nomatch h), fun ⟨h1, h2, h3, h4, h5⟩ => by omega⟩, by simp⟩
theorem Upto.row {n i : Int} {f : Int → Int → Prop} {ts : List (Int × Int)} (hi : 0 ≤ i) (h : Upto n f i 0 ts) : Upto n f i (i + 1) ts := ⟨h.up, fun p => by
  rw [h.mem]
  constructor
  · rintro ⟨h1, h2, h3, h4, h5⟩; exact ⟨h1, h2, h3, h4, by omega⟩
  · rintro ⟨h1, h2, h3, h4, h5⟩; exact ⟨h1, h2, h3, h4, by omega⟩, by have := h.few; omega⟩
theorem Upto.no {n i j : Int} {f : Int → Int → Prop} {ts : List (Int × Int)} (h : Upto n f i j ts) (hf : ¬ f i j) : Upto n f i (j + 1) ts := ⟨h.up, fun p => by
  rw [h.mem]
  constructor
  · rintro ⟨h1, h2, h3, h4, h5⟩; exact ⟨h1, h2, h3, h4, by omega⟩
  · rintro ⟨h1, h2, h3, h4, h5⟩
    refine ⟨h1, h2, h3, h4, ?_⟩
    by_cases e : p.1 = i ∧ p.2 = j
    · rw [e.1, e.2] at h4; exact (hf h4).elim
    · omega, by have := h.few; omega⟩
theorem Upto.yes {n i j : Int} {f : Int → Int → Prop} {ts : List (Int × Int)} (h : Upto n f i j ts) (h0 : 0 ≤ i) (hij : i < j) (hjn : j < n) (hf : f i j) : Upto n f i (j + 1) (ts ++ [(i, j)]) := by
  refine ⟨List.pairwise_append.mpr ⟨h.up, by simp, fun p hp q hq => ?_⟩, fun p => ?_, by have := h.few; rw [List.length_append]; simp; omega⟩
  · obtain rfl := List.mem_singleton.mp hq
    have := ((h.mem p).mp hp).2.2.2.2
    exact ltPr_iff.mpr this
  · rw [List.mem_append, h.mem, List.mem_singleton]
    constructor
    · rintro (⟨h1, h2, h3, h4, h5⟩ | rfl)
      · exact ⟨h1, h2, h3, h4, by omega⟩
      · exact ⟨h0, hij, hjn, hf, .inr ⟨rfl, by show j < j + 1; omega⟩⟩
    · rintro ⟨h1, h2, h3, h4, h5⟩
      by_cases e : p.1 = i ∧ p.2 = j
      · exact .inr (Prod.ext e.1 e.2)
      · exact .inl ⟨h1, h2, h3, h4, by omega⟩
theorem Upto.next {n i j : Int} {f : Int → Int → Prop} {ts : List (Int × Int)} (h : Upto n f i j ts) (hj : n ≤ j) (hj2 : j ≤ 10) : Upto n f (i + 1) 0 ts := ⟨h.up, fun p => by
  rw [h.mem]
  constructor
  · rintro ⟨h1, h2, h3, h4, h5⟩; exact ⟨h1, h2, h3, h4, by omega⟩
  · rintro ⟨h1, h2, h3, h4, h5⟩; exact ⟨h1, h2, h3, h4, by omega⟩, by have := h.few; omega⟩
/-- all the rows -/
structure Whole (n : Int) (f : Int → Int → Prop) (ts : List (Int × Int)) : Prop where
  up : Up ts
  mem : ∀ p, p ∈ ts ↔ 0 ≤ p.1 ∧ p.1 < p.2 ∧ p.2 < n ∧ f p.1 p.2
  few : ts.length ≤ 1000
theorem Upto.whole {n i j : Int} {f : Int → Int → Prop} {ts : List (Int × Int)} (h : Upto n f i j ts) (hi : n ≤ i) (hi2 : i ≤ 10) (hj : j ≤ 10) : Whole n f ts := ⟨h.up, fun p => by
  rw [h.mem]
  constructor
  · rintro ⟨h1, h2, h3, h4, h5⟩; exact ⟨h1, h2, h3, h4⟩
  · rintro ⟨h1, h2, h3, h4⟩; exact ⟨h1, h2, h3, h4, by omega⟩, by have := h.few; omega⟩
theorem Whole.eq {n : Int} {f g : Int → Int → Prop} {ps qs : List (Int × Int)} (h1 : Whole n f ps) (h2 : Whole n g qs) (h : ∀ i j, 0 ≤ i → i < j → j < n → (f i j ↔ g i j)) : ps = qs := up_eq h1.up h2.up fun p => by
  rw [h1.mem, h2.mem]
  constructor
  · rintro ⟨a, b, c, d⟩; exact ⟨a, b, c, (h _ _ a b c).mp d⟩
  · rintro ⟨a, b, c, d⟩; exact ⟨a, b, c, (h _ _ a b c).mpr d⟩
theorem Whole.good {n : Int} {f : Int → Int → Prop} {ts : List (Int × Int)} (h : Whole n f ts) (h0 : 0 ≤ n) (h10 : n ≤ 10) : Good n ts := ⟨h0, h10, fun p hp => by have := (h.mem p).mp hp; exact ⟨this.1, this.2.1, this.2.2.1⟩, h.up, h.few⟩
/-- rising pairs below ten are few -/
theorem up_few {ps : List (Int × Int)} (h : Up ps) (hb : ∀ p ∈ ps, 0 ≤ p.1 ∧ p.1 < 10 ∧ 0 ≤ p.2 ∧ p.2 < 10) : ps.length ≤ 100 := by
  have go : ∀ (l : List Nat), l.Pairwise (· < ·) → (∀ x ∈ l, x < 100) → ∀ m, (∀ x ∈ l, m ≤ x) → m ≤ 100 → l.length + m ≤ 100 := by
    intro l
    induction l with
    | nil => intro _ _ m _ h; simpa using h
    | cons a l ih =>
      intro hp hx m hm _
      obtain ⟨h1, h2⟩ := List.pairwise_cons.mp hp
      have := ih h2 (fun x hx' => hx x (List.mem_cons_of_mem _ hx')) (a + 1) (fun x hx' => h1 x hx') (by have := hx a List.mem_cons_self; omega)
      have := hm a List.mem_cons_self
      rw [List.length_cons]
      omega
  have h2 : (ps.map fun p => (p.1 * 10 + p.2).toNat).Pairwise (· < ·) := by
    refine List.pairwise_map.mpr (List.Pairwise.imp_of_mem ?_ h)
    intro a b ha hb' hab
    have h1 := hb a ha
    have h2 := hb b hb'
    have h3 := ltPr_iff.mp hab
    omega
  have := go _ h2 (fun x hx => by
    obtain ⟨p, hp, rfl⟩ := List.mem_map.mp hx
    have := hb p hp
    omega) 0 (fun _ _ => Nat.zero_le _) (by decide)
  simpa using this
theorem Whole.of {n : Int} {f : Int → Int → Prop} {ts : List (Int × Int)} (h10 : n ≤ 10) (hu : Up ts) (hm : ∀ p, p ∈ ts ↔ 0 ≤ p.1 ∧ p.1 < p.2 ∧ p.2 < n ∧ f p.1 p.2) : Whole n f ts := ⟨hu, hm, Nat.le_trans (up_few hu fun p hp => by have := (hm p).mp hp; omega) (by decide)⟩
theorem good_few {n : Int} {ts : List (Int × Int)} (g : Good n ts) : ts.length ≤ 100 := up_few g.up fun p hp => by have := g.ties p hp; have := g.n10; omega
theorem divmod {x m a : Int} (h0 : 0 ≤ a) (h1 : a < m) : (x * m + a) / m = x ∧ (x * m + a) % m = a := by
  rw [Int.add_comm, Int.add_mul_ediv_right _ _ (by omega), Int.add_mul_emod_self_right, Int.ediv_eq_zero_of_lt h0 h1, Int.emod_eq_of_lt h0 h1]
  exact ⟨by omega, rfl⟩
theorem uniq {x y m a b : Int} (h0 : 0 ≤ a) (h1 : a < m) (h2 : 0 ≤ b) (h3 : b < m) (e : x * m + a = y * m + b) : x = y ∧ a = b := by
  have h := divmod (x := x) h0 h1
  have k := divmod (x := y) h2 h3
  rw [e] at h
  exact ⟨h.1.symm.trans k.1, h.2.symm.trans k.2⟩
theorem split_mod {i m : Int} (h : 0 < m) : i / m * m + i % m = i ∧ 0 ≤ i % m ∧ i % m < m := ⟨by rw [Int.mul_comm]; exact Int.mul_ediv_add_emod i m, Int.emod_nonneg _ (by omega), Int.emod_lt_of_pos _ h⟩
/-! ### sets of places: rising rows of whole numbers -/
def prs : List Int → List (Int × Int)
  | [] => []
  | k :: ks => (ks.map fun z => (k, z)) ++ prs ks
theorem prs_len : ∀ ks : List Int, (prs ks).length ≤ ks.length * ks.length
  | [] => Nat.le_refl _
  | k :: ks => by
    have h := prs_len ks
    unfold prs
    rw [List.length_append, List.length_map, List.length_cons]
    have e : (ks.length + 1) * (ks.length + 1) = ks.length * ks.length + ks.length + ks.length + 1 := by
      rw [Nat.add_mul, Nat.mul_add]; omega
    omega
theorem prs_mem {ks : List Int} (h : ks.Pairwise (· < ·)) {p : Int × Int} : p ∈ prs ks ↔ p.1 ∈ ks ∧ p.2 ∈ ks ∧ p.1 < p.2 := by
  induction ks with
  | nil => simp [prs]
  | cons k ks ih =>
    obtain ⟨h1, h2⟩ := List.pairwise_cons.mp h
    unfold prs
    rw [List.mem_append, List.mem_map, ih h2]
    constructor
    · rintro (⟨z, hz, rfl⟩ | ⟨a, b, c⟩)
      · exact ⟨List.mem_cons_self, List.mem_cons_of_mem _ hz, h1 z hz⟩
      · exact ⟨List.mem_cons_of_mem _ a, List.mem_cons_of_mem _ b, c⟩
    · rintro ⟨a, b, c⟩
      rcases List.mem_cons.mp a with e | a
      · rcases List.mem_cons.mp b with e2 | b
        · omega
        · exact .inl ⟨p.2, b, Prod.ext e.symm rfl⟩
      · rcases List.mem_cons.mp b with e2 | b
        · have := h1 _ a; omega
        · exact .inr ⟨a, b, c⟩
theorem prs_up {ks : List Int} (h : ks.Pairwise (· < ·)) : Up (prs ks) := by
  induction ks with
  | nil => exact .nil
  | cons k ks ih =>
    obtain ⟨h1, h2⟩ := List.pairwise_cons.mp h
    unfold prs
    refine List.pairwise_append.mpr ⟨List.pairwise_map.mpr (h2.imp fun {a b} hab => (ltPr_iff (p := (k, a)) (q := (k, b))).mpr (.inr ⟨rfl, hab⟩)), ih h2, fun p hp q hq => ?_⟩
    obtain ⟨z, hz, rfl⟩ := List.mem_map.mp hp
    have := h1 _ ((prs_mem h2).mp hq).1
    exact ltPr_iff.mpr (.inl this)
theorem rangeI_up {n : Nat} : (rangeI n).Pairwise (· < ·) := List.pairwise_map.mpr ((List.pairwise_lt_range (n := n)).imp fun {a b} h => by omega)
theorem st_notIn_pt {ts : List (Int × Int)} {a b : Int} {k : R → Prop} (h : k (.d (.bool (!decide ((a, b) ∈ ts))))) : cNotIn (.tuple [.int a, .int b]) (.tuple (ts.map pairD)) k := by
  refine st_notIn_t (shaped_pairD (p := (a, b))) shaped_pairs ?_
  rw [show (PyData.tuple [.int a, .int b]) = pairD (a, b) from rfl, any_pair]
  exact h
local macro_rules
  | `(tactic| sizeOf_list_dec) => `(tactic| with_reducible refine st_notIn_pt ?_)
def rangeF (lo : Int) (n : Nat) : List Int := (List.range n).map fun (k : Nat) => lo + (k : Int)
theorem rangeF_map {lo : Int} {n : Nat} : rangeD lo n = (rangeF lo n).map PyData.int := by
  unfold rangeD rangeF
  rw [List.map_map]; rfl
theorem rangeF_len {lo : Int} {n : Nat} : (rangeF lo n).length = n := by unfold rangeF; simp
theorem rangeF_up {lo : Int} {n : Nat} : (rangeF lo n).Pairwise (· < ·) := List.pairwise_map.mpr ((List.pairwise_lt_range (n := n)).imp fun {a b} h => by omega)
theorem rangeF_mem {lo hi i : Int} : i ∈ rangeF lo (hi - lo).toNat ↔ lo ≤ i ∧ i < hi := by
  unfold rangeF
  rw [List.mem_map]
  constructor
  · rintro ⟨k, hk, rfl⟩
    have := List.mem_range.mp hk
    omega
  · rintro ⟨h0, h1⟩
    exact ⟨(i - lo).toNat, List.mem_range.mpr (by omega), by omega⟩
theorem Upto.rowF {n i : Int} {f : Int → Int → Prop} {ts : List (Int × Int)} (h : Upto n f i 0 ts) (h0 : 0 ≤ i) (hin : i < n) (h10 : n ≤ 10) (q : Int → Bool) (hq : ∀ j, i < j → j < n → (q j = true ↔ f i j)) :
    Upto n f (i + 1) 0 (ts ++ ((rangeF (i + 1) (n - (i + 1)).toNat).filter q).map fun j => (i, j)) := by
  refine ⟨List.pairwise_append.mpr ⟨h.up, List.pairwise_map.mpr ((rangeF_up.filter _).imp fun {a b} hab => (ltPr_iff (p := (i, a)) (q := (i, b))).mpr (.inr ⟨rfl, hab⟩)), fun p hp r hr => ?_⟩, fun p => ?_, ?_⟩
  · obtain ⟨z, hz, rfl⟩ := List.mem_map.mp hr
    have h1 := (h.mem p).mp hp
    exact ltPr_iff.mpr (.inl (by show p.1 < i; omega))
  · rw [List.mem_append, h.mem, List.mem_map]
    constructor
    · rintro (⟨a, b, c, d, e⟩ | ⟨z, hz, rfl⟩)
      · exact ⟨a, b, c, d, by omega⟩
      · obtain ⟨h1, h2⟩ := List.mem_filter.mp hz
        have h3 := rangeF_mem.mp h1
        exact ⟨h0, by show i < z; omega, h3.2, (hq z (by omega) h3.2).mp h2, .inl (by show i < i + 1; omega)⟩
    · rintro ⟨a, b, c, d, e⟩
      by_cases e2 : p.1 = i
      · rw [e2] at d
        exact .inr ⟨p.2, List.mem_filter.mpr ⟨rangeF_mem.mpr ⟨by omega, c⟩, (hq _ (by omega) c).mpr d⟩, Prod.ext e2.symm rfl⟩
      · exact .inl ⟨a, b, c, d, by omega⟩
  · have := h.few
    have l1 := List.length_filter_le q (rangeF (i + 1) (n - (i + 1)).toNat)
    rw [rangeF_len] at l1
    rw [List.length_append, List.length_map]
    omega
theorem good_whole {n : Int} {ts : List (Int × Int)} (g : Good n ts) : Whole n (fun i j => (i, j) ∈ ts) ts := Whole.of g.n10 g.up fun p => ⟨fun h => by have := g.ties p h; exact ⟨this.1, this.2.1, this.2.2, h⟩, fun h => h.2.2.2⟩
theorem is_rising_int_ok {ks : List Int} (hs : ks.Pairwise (· < ·)) (hl : ks.length ≤ 1000) {X : XF} {Q : R → S → Prop} (h : ∀ fin, Q (.d (.bool true)) fin) : m_is_rising [.d (.tuple (ks.map .int))] X Q := by
  unfold m_is_rising b_is_rising
  refine st_sem rfl ?_
  array_get_dec
  rw [List.length_map]
  refine ⟨by unfold lim62; omega, ?_⟩
  array_get_dec
  refine ⟨by rw [rangeD_len]; show _ ≤ 16777216; omega, ?_⟩
  array_get_dec
  refine comp_true (fun x hx kT hk => ?_) ?_
  · obtain ⟨t, ht, rfl⟩ := List.mem_map.mp (show x ∈ (List.range ((ks.length : Int) - 1).toNat).map fun (k : Nat) => PyData.int (0 + (k : Int)) from hx)
    have ht := List.mem_range.mp ht
    have h1 : t < ks.length := by omega
    have h2 : t + 1 < ks.length := by omega
    array_get_dec
    refine st_ix_t (atZ_ok (by omega) (by omega)) ?_
    array_get_dec
    refine st_ix_t (atZ_ok (by omega) (by omega)) ?_
    array_get_dec
    have lt := List.pairwise_iff_getElem.mp hs t (t + 1) h1 h2 (Nat.lt_succ_self t)
    have e1 : atZ ks (0 + (t : Int)) = ks[t] := by simp [atZ, List.getD_eq_getElem?_getD, List.getElem?_eq_getElem h1]
    have e2 : atZ ks (0 + (t : Int) + 1) = ks[t + 1] := by
      rw [show (0 + (t : Int) + 1) = ((t + 1 : Nat) : Int) by omega]
      simp [atZ, List.getD_eq_getElem?_getD, List.getElem?_eq_getElem h2]
    rw [e1, e2, decide_eq_true lt]
    exact hk
  · array_get_dec
    refine st_all_true ?_
    array_get_dec
    exact h _
/-- a set of places -/
structure Set' (n : Int) (ks : List Int) : Prop where
  up : ks.Pairwise (· < ·)
  lt : ∀ z ∈ ks, 0 ≤ z ∧ z < n
theorem Set'.few {n : Int} {ks : List Int} (h : Set' n ks) (h10 : n ≤ 10) : ks.length ≤ 10 := by
  have go : ∀ (l : List Int), l.Pairwise (· < ·) → (∀ x ∈ l, x < 10) → ∀ m : Int, 0 ≤ m → (∀ x ∈ l, m ≤ x) → m ≤ 10 → (l.length : Int) + m ≤ 10 := by
    intro l
    induction l with
    | nil => intro _ _ m _ _ h; simpa using h
    | cons a l ih =>
      intro hp hx m h0 hm _
      obtain ⟨h1, h2⟩ := List.pairwise_cons.mp hp
      have ha := hx a List.mem_cons_self
      have hma := hm a List.mem_cons_self
      have := ih h2 (fun x hx' => hx x (List.mem_cons_of_mem _ hx')) (a + 1) (by omega) (fun x hx' => by have := h1 x hx'; omega) (by omega)
      rw [List.length_cons]
      omega
  have := go ks h.up (fun x hx => by have := h.lt x hx; omega) 0 (by omega) (fun x hx => (h.lt x hx).1) (by omega)
  omega
theorem set_range {n : Int} : Set' n (rangeI n.toNat) := ⟨rangeI_up, fun z hz => by have := rangeI_mem.mp hz; omega⟩
theorem Set'.sub {n : Int} {ks ls : List Int} (h : Set' n ks) (s : ls.Sublist ks) : Set' n ls := ⟨h.up.sublist s, fun z hz => h.lt z (s.subset hz)⟩
theorem Set'.at_lt {n : Int} {ks : List Int} (h : Set' n ks) {i j : Int} (h0 : 0 ≤ i) (hij : i < j) (hj : j < ks.length) : atZ ks i < atZ ks j := by
  obtain ⟨a, rfl⟩ := Int.eq_ofNat_of_zero_le h0
  obtain ⟨b, rfl⟩ := Int.eq_ofNat_of_zero_le (show 0 ≤ j by omega)
  have h1 : a < ks.length := by omega
  have h2 : b < ks.length := by omega
  have lt := List.pairwise_iff_getElem.mp h.up a b h1 h2 (by omega)
  simpa [atZ, List.getD_eq_getElem?_getD, List.getElem?_eq_getElem h1, List.getElem?_eq_getElem h2] using lt
/-! ### lists of tuples of ints -/
def atL (nss : List (List Int)) (i : Int) : List Int := nss.getD i.toNat []
theorem atL_ok {nss : List (List Int)} {i : Int} (h0 : 0 ≤ i) (h1 : i < nss.length) : L2.atI (nss.map tupI) i = some (tupI (atL nss i)) := by
  obtain ⟨a, rfl⟩ := Int.eq_ofNat_of_zero_le h0
  have ha : a < nss.length := by omega
  rw [L2.atI_nat (show (nss.map tupI)[a]? = some (tupI nss[a]) by simp [ha])]
  simp [atL, List.getD_eq_getElem?_getD, ha]
theorem sort_one : ∀ {as bs : List (List Int)}, as.Perm bs → as.Pairwise (fun a b => lexL b a = false) → bs.Pairwise (fun a b => lexL b a = false) → as = bs
  | [], bs, h, _, _ => h.symm.eq_nil.symm
  | a :: as, [], h, _, _ => by cases h.eq_nil
  | a :: as, b :: bs, h, h1, h2 => by
    obtain ⟨p1, p2⟩ := List.pairwise_cons.mp h1
    obtain ⟨q1, q2⟩ := List.pairwise_cons.mp h2
    have e : a = b := by
      rcases List.mem_cons.mp (h.mem_iff.mp List.mem_cons_self) with e | ha
      · exact e
      · rcases List.mem_cons.mp (h.mem_iff.mpr List.mem_cons_self) with e | hb
        · exact e.symm
        · exact lexL_eq (q1 a ha) (p1 b hb)
    subst e
    rw [sort_one h.cons_inv p2 q2]
def adj : List (List Int) → Bool
  | a :: b :: r => !lexL b a && adj (b :: r)
  | _ => true
theorem adj_ok : ∀ {l : List (List Int)}, adj l = true → l.Pairwise (fun a b => lexL b a = false)
  | [], _ => .nil
  | [a], _ => List.pairwise_singleton _ _
  | a :: b :: r, h => by
    have h : (!lexL b a && adj (b :: r)) = true := h
    obtain ⟨h1, h2⟩ := Bool.and_eq_true_iff.mp h
    have h1 : lexL b a = false := by simpa using h1
    have ih := adj_ok h2
    refine List.pairwise_cons.mpr ⟨fun c hc => ?_, ih⟩
    rcases List.mem_cons.mp hc with rfl | hc
    · exact h1
    · exact lexL_tr ((List.pairwise_cons.mp ih).1 c hc) h1
theorem tupsOf_map : ∀ nss : List (List Int), tupsOf (nss.map tupI) = some nss
  | [] => rfl
  | ns :: nss => by
    show (match tupOf (tupI ns), tupsOf (nss.map tupI) with | some n, some ns => some (n :: ns) | _, _ => none) = _
    rw [tupsOf_map nss, show tupOf (tupI ns) = some ns from intsOf_map' ns]
theorem st_sort_t {nss : List (List Int)} {k : R → Prop} (hne : 2 ≤ nss.length → ∀ ns ∈ nss, ns ≠ []) (h : ∀ mss : List (List Int), mss.Perm nss → mss.Pairwise (fun a b => lexL b a = false) → k (.own (.l (mss.map tupI)))) : bSorted [.list (nss.map tupI)] k := by
  cases nss with
  | nil => exact fun ms hp hs => by rw [hp.eq_nil]; exact h [] (List.Perm.refl _) .nil
  | cons ns nss =>
    show (match pairsOf ((ns :: nss).map tupI) with | some _ => bSortP [.list ((ns :: nss).map tupI)] k | none => bSortT [.list ((ns :: nss).map tupI)] k)
    generalize e0 : (ns :: nss) = all at hne h ⊢
    clear e0
    cases e : pairsOf (all.map tupI) with
    | none =>
      show (match tupsOf (all.map tupI) with
        | some nss => (2 ≤ nss.length → ∀ ns ∈ nss, ns ≠ []) ∧ ∀ mss : List (List Int), mss.Perm nss → mss.Pairwise (fun a b => lexL b a = false) → k (.own (.l (mss.map tupI)))
        | none => False)
      rw [tupsOf_map]
      exact ⟨hne, h⟩
    | some ps =>
      show (match pairsOf (all.map tupI) with | some ps => ∀ qs : List (Int × Int), qs.Perm ps → qs.Pairwise (fun p q => ltPr q p = false) → k (.own (.l (qs.map pairD))) | none => False)
      rw [e]
      intro qs hp hs
      have e1 := pairsOf_eq e
      have inj : ∀ {as bs : List (List Int)}, as.map tupI = bs.map tupI → as = bs := fun {as bs} h => by
        have := congrArg tupsOf h
        rw [tupsOf_map, tupsOf_map] at this
        exact Option.some.inj this
      have e2 : all = ps.map fun p => [p.1, p.2] := inj (by
        rw [e1, List.map_map]
        rfl)
      have e3 : qs.map pairD = (qs.map fun p => [p.1, p.2]).map tupI := by rw [List.map_map]; rfl
      rw [e3]
      refine h _ (by rw [e2]; exact hp.map _) ?_
      rw [List.pairwise_map]
      refine hs.imp fun {p q} hpq => ?_
      have : ¬ (q.1 < p.1 ∨ q.1 = p.1 ∧ q.2 < p.2) := fun hc => by
        unfold ltPr at hpq
        simp only [Bool.or_eq_false_iff, Bool.and_eq_false_iff, decide_eq_false_iff_not, beq_eq_false_iff_ne, ne_eq] at hpq
        omega
      rw [lexL_cons, lexL_cons]
      by_cases a : q.1 = p.1
      · rw [if_pos a]
        by_cases b : q.2 = p.2
        · rw [if_pos b]; rfl
        · rw [if_neg b]
          exact decide_eq_false (by omega)
      · rw [if_neg a]
        exact decide_eq_false (by omega)
theorem st_eq_ll {ns ms : List Int} {k : R → Prop} (h : k (.d (.bool (decide (ns = ms))))) : cEq (.list (ns.map .int)) (.list (ms.map .int)) k := by
  refine st_eq (x := .list (ns.map .int)) (y := .list (ms.map .int)) shaped_intsL shaped_intsL ?_
  show k (.d (.bool (PyData.eqvAll (ns.map .int) (ms.map .int))))
  rw [eqv_ints]
  exact h
theorem atZ_rangeF {lo : Int} {n : Nat} {i : Int} (h0 : 0 ≤ i) (h1 : i < n) : atZ (rangeF lo n) i = lo + i := by
  obtain ⟨k, rfl⟩ := Int.eq_ofNat_of_zero_le h0
  unfold atZ rangeF
  simp only [Int.toNat_natCast]
  rw [List.getD_eq_getElem?_getD, List.getElem?_map, List.getElem?_range (by omega)]
  rfl
theorem range_F {n : Nat} : rangeI n = rangeF 0 n := by
  unfold rangeI rangeF
  exact List.map_congr_left fun k _ => by simp
theorem atZ_range {n : Nat} {i : Int} (h0 : 0 ≤ i) (h1 : i < n) : atZ (rangeI n) i = i := by
  rw [range_F, atZ_rangeF h0 h1, Int.zero_add]
theorem set_rangeF {N lo : Int} {n : Nat} (h0 : 0 ≤ lo) (h1 : lo + n ≤ N) : Set' N (rangeF lo n) := ⟨rangeF_up, fun z hz => by
  obtain ⟨k, hk, rfl⟩ := List.mem_map.mp hz
  have := List.mem_range.mp hk
  omega⟩
/-! ### dicts whose keys are sets of places -/
def dcT (ps : List (List Int × D)) : List (D × D) := (.none, .none) :: ps.map fun p => (tupI p.1, p.2)
def lkT {α : Type} (ps : List (List Int × α)) (k : List Int) : Option α := (ps.find? fun p => decide (p.1 = k)).map (·.2)
def putL {α : Type} (ps : List (List Int × α)) (k : List Int) (x : α) : List (List Int × α) := if (lkT ps k).isSome = true then ps.map (fun p => if p.1 = k then (p.1, x) else p) else ps ++ [(k, x)]
theorem tupI_keys (ns : List Int) : tupI ns = keysD (ns.map Sum.inl) := by
  unfold tupI keysD
  rw [List.map_map]
  rfl
theorem keysN_ints (ns : List Int) : keysN (ns.map PyData.int) = some (ns.map Sum.inl) := by
  have := keysN_map (ns.map Sum.inl)
  rw [List.map_map] at this
  exact this
theorem map_inl_inj : ∀ {a b : List Int}, a.map (Sum.inl : Int → L2.Key) = b.map Sum.inl → a = b
  | [], [], _ => rfl
  | [], _ :: _, h => by cases h
  | _ :: _, [], h => by cases h
  | x :: a, y :: b, h => by
    rw [List.map_cons, List.map_cons] at h
    injection h with h1 h2
    injection h1 with h1
    rw [h1, map_inl_inj h2]
theorem sameT_tupI (a b : List Int) : sameT (tupI a) (b.map Sum.inl) = decide (a = b) := by
  rw [tupI_keys, sameT_keysD]
  by_cases h : a = b
  · subst h; simp
  · rw [decide_eq_false h, decide_eq_false fun e => h (map_inl_inj e)]
theorem findT (k : List Int) : ∀ ps : List (List Int × D), ((ps.map fun p => ((tupI p.1, p.2) : D × D)).find? fun p => sameT p.1 (k.map Sum.inl)).map (·.2) = lkT ps k
  | [] => rfl
  | p :: ps => by
    have ih := findT k ps
    unfold lkT at ih ⊢
    rw [List.map_cons, List.find?_cons, List.find?_cons]
    dsimp only
    rw [sameT_tupI]
    cases decide (p.1 = k) with
    | true => rfl
    | false => exact ih
theorem dcT_get {ps : List (List Int × D)} {k : List Int} {Q : Option D → Prop} (q : Q (lkT ps k)) : dGet (dcT ps) (tupI k) Q := by
  show (match keysN (k.map PyData.int) with
      | some ks => Q (((ps.map fun p => ((tupI p.1, p.2) : D × D)).find? fun p => sameT p.1 ks).map (·.2))
      | none => False)
  rw [keysN_ints]
  show Q _
  rw [findT]
  exact q
theorem dcT_in {ps : List (List Int × D)} {k : List Int} {P : R → Prop} (q : P (.d (.bool (lkT ps k).isSome))) : cInK (tupI k) (.dict (dcT ps)) P := .inr ⟨_, rfl, dcT_get q⟩
theorem dcT_ix {ps : List (List Int × D)} {k : List Int} {x : D} {P : R → Prop} (e : lkT ps k = some x) (q : P (.d x)) : ixD2 (.dict (dcT ps)) (tupI k) P := .inr ⟨_, rfl, dcT_get ⟨x, e, q⟩⟩
theorem anyT (k : List Int) : ∀ ps : List (List Int × D), ((ps.map fun p => ((tupI p.1, p.2) : D × D)).any fun p => sameT p.1 (k.map Sum.inl)) = (lkT ps k).isSome
  | [] => rfl
  | p :: ps => by
    have ih := anyT k ps
    unfold lkT at ih ⊢
    rw [List.map_cons, List.any_cons, List.find?_cons, ih]
    dsimp only
    rw [sameT_tupI]
    cases decide (p.1 = k) with
    | true => rfl
    | false => rfl
theorem dcT_put {ps : List (List Int × D)} {k : List Int} {x : D} {Q : List (D × D) → Prop} (hl : ps.length < 100000) (q : Q (dcT (putL ps k x))) : dPut (dcT ps) (tupI k) x Q := by
  show (match keysN (k.map PyData.int) with
      | some ks => (ps.map fun p => ((tupI p.1, p.2) : D × D)).length < sizeLine ∧ Q ((.none, .none) :: putT (ps.map fun p => ((tupI p.1, p.2) : D × D)) ks x)
      | none => False)
  rw [keysN_ints]
  refine ⟨by rw [List.length_map]; show _ < 16777216; omega, ?_⟩
  have e : putT (ps.map fun p => ((tupI p.1, p.2) : D × D)) (k.map Sum.inl) x = (putL ps k x).map fun p => ((tupI p.1, p.2) : D × D) := by
    unfold putT putL
    rw [anyT]
    split
    · rw [List.map_map, List.map_map]
      refine List.map_congr_left fun p hp => ?_
      simp only [Function.comp]
      rw [sameT_tupI]
      by_cases h : p.1 = k
      · rw [decide_eq_true h, if_pos rfl, if_pos h]
      · rw [decide_eq_false h, if_neg (by simp), if_neg h]
    · rw [List.map_append, List.map_cons, ← tupI_keys]
      rfl
  rw [e]
  exact q
theorem putL_keys {α : Type} {ps : List (List Int × α)} {k : List Int} {x : α} : (putL ps k x).map (·.1) = if (lkT ps k).isSome = true then ps.map (·.1) else ps.map (·.1) ++ [k] := by
  unfold putL
  split
  · rw [List.map_map]
    refine List.map_congr_left fun p hp => ?_
    simp only [Function.comp]
    split <;> rfl
  · rw [List.map_append]
    rfl
theorem lkT_iff {α : Type} {k : List Int} : ∀ {ps : List (List Int × α)}, (lkT ps k).isSome = true ↔ k ∈ ps.map (·.1)
  | [] => by simp [lkT]
  | p :: ps => by
    have ih := lkT_iff (k := k) (ps := ps)
    unfold lkT at ih ⊢
    rw [List.find?_cons, List.map_cons, List.mem_cons]
    by_cases h : p.1 = k
    · rw [decide_eq_true h]
      simp [h]
    · rw [decide_eq_false h]
      rw [ih]
      exact ⟨.inr, fun e => e.elim (fun e => (h e.symm).elim) id⟩
theorem putL_nodup {α : Type} {ps : List (List Int × α)} {k : List Int} {x : α} (h : (ps.map (·.1)).Nodup) : ((putL ps k x).map (·.1)).Nodup := by
  rw [putL_keys]
  split
  · exact h
  · rename_i hn
    refine List.nodup_append.mpr ⟨h, by simp, fun a ha b hb e => hn (lkT_iff.mpr ?_)⟩
    have : b = k := by simpa using hb
    rw [← this, ← e]
    exact ha
theorem putL_len {α : Type} {ps : List (List Int × α)} {k : List Int} {x : α} : (putL ps k x).length ≤ ps.length + 1 := by
  have := congrArg List.length (putL_keys (ps := ps) (k := k) (x := x))
  rw [List.length_map] at this
  rw [this]
  split
  · rw [List.length_map]; omega
  · rw [List.length_append, List.length_map]; simp
theorem putL_mem {α : Type} {ps : List (List Int × α)} {k : List Int} {x : α} {p : List Int × α} (h : p ∈ putL ps k x) : p ∈ ps ∨ p = (k, x) := by
  unfold putL at h
  split at h
  · obtain ⟨q, hq, rfl⟩ := List.mem_map.mp h
    split
    · rename_i e
      exact .inr (by rw [e])
    · exact .inl hq
  · rcases List.mem_append.mp h with h | h
    · exact .inl h
    · exact .inr (by simpa using h)
theorem lkT_mem {α : Type} {ps : List (List Int × α)} {k : List Int} {x : α} (h : lkT ps k = some x) : (k, x) ∈ ps := by
  unfold lkT at h
  cases e : ps.find? fun p => decide (p.1 = k) with
  | none => rw [e] at h; cases h
  | some q =>
    rw [e] at h
    have hm := List.mem_of_find?_eq_some e
    have hq : q.1 = k := of_decide_eq_true (List.find?_some (p := fun (p : List Int × α) => decide (p.1 = k)) e)
    have hv : q.2 = x := Option.some.inj h
    rw [← hq, ← hv]
    exact hm
theorem lkT_map {α β : Type} (f : α → β) (k : List Int) : ∀ ps : List (List Int × α), lkT (ps.map fun p => (p.1, f p.2)) k = (lkT ps k).map f
  | [] => rfl
  | p :: ps => by
    have ih := lkT_map f k ps
    unfold lkT at ih ⊢
    rw [List.map_cons, List.find?_cons, List.find?_cons]
    dsimp only
    cases decide (p.1 = k) with
    | true => rfl
    | false => exact ih
theorem putL_map {α β : Type} (f : α → β) (k : List Int) (x : α) (ps : List (List Int × α)) : putL (ps.map fun p => (p.1, f p.2)) k (f x) = (putL ps k x).map fun p => (p.1, f p.2) := by
  unfold putL
  rw [lkT_map, Option.isSome_map]
  split
  · rw [List.map_map, List.map_map]
    refine List.map_congr_left fun p hp => ?_
    simp only [Function.comp]
    split <;> rfl
  · rw [List.map_append]
    rfl
theorem tupsOf_keys : ∀ ps : List (List Int × D), tupsOf ((ps.map fun p => ((tupI p.1, p.2) : D × D)).map (·.1)) = some (ps.map (·.1))
  | [] => rfl
  | p :: ps => by
    have ih := tupsOf_keys ps
    rw [List.map_cons, List.map_cons]
    show (match tupOf (tupI p.1), tupsOf ((ps.map fun p => ((tupI p.1, p.2) : D × D)).map (·.1)) with | some n, some ns => some (n :: ns) | _, _ => none) = _
    rw [ih, show tupOf (tupI p.1) = intsOf (p.1.map PyData.int) from rfl, intsOf_map']
    rfl
theorem lexL_perm_eq {a b : List (List Int)} (hp : a.Perm b) (ha : a.Pairwise fun x y => lexL y x = false) (hb : b.Pairwise fun x y => lexL y x = false) : a = b := by
  induction a generalizing b with
  | nil => exact hp.nil_eq
  | cons x a ih =>
    cases b with
    | nil => exact absurd hp.length_eq (by simp)
    | cons y b =>
      obtain ⟨a1, a2⟩ := List.pairwise_cons.mp ha
      obtain ⟨b1, b2⟩ := List.pairwise_cons.mp hb
      have e : x = y := by
        have hx : x ∈ y :: b := hp.mem_iff.mp List.mem_cons_self
        have hy : y ∈ x :: a := hp.mem_iff.mpr List.mem_cons_self
        rcases List.mem_cons.mp hx with e | hx
        · exact e
        · rcases List.mem_cons.mp hy with e | hy
          · exact e.symm
          · exact lexL_eq (b1 x hx) (a1 y hy)|>.symm |> fun h => by first | exact h | exact h.symm
      subst e
      rw [ih (List.Perm.cons_inv hp) a2 b2]
end Lk22
namespace Lk22
open PySem Hs
local macro_rules
  | `(tactic| sizeOf_list_dec) => `(tactic| first
    | with_reducible refine st_seq ?_ | with_reducible refine st_asg ?_ | with_reducible refine st_cons ?_ | with_reducible refine st_nil ?_ | with_reducible refine st_C ?_ | with_reducible refine st_op ?_
    | with_reducible refine st_var_d ?_ | with_reducible refine st_var_l ?_ | with_reducible refine st_var_ll ?_ | with_reducible refine st_var_dc ?_
    | with_reducible refine st_look_d ?_ | with_reducible refine st_look_top ?_ | with_reducible refine st_look_top_d ?_ | with_reducible refine st_look_own ?_ | with_reducible refine st_look_top_dc ?_ | with_reducible refine st_look_own_dc ?_ | with_reducible refine st_put_d ?_ | with_reducible refine st_put_own ?_ | with_reducible refine st_put_top_l ?_ | with_reducible refine st_put_top_ll ?_ | with_reducible refine st_put_top_dc ?_
    | ((with_reducible refine st_callF ?_ ?_); eq_refl) | with_reducible refine st_call ?_ | with_reducible refine st_putK_nil ?_ | with_reducible refine st_putK_t ?_ | with_reducible refine st_putK_f ?_ | with_reducible refine st_putK_td ?_ | with_reducible refine st_putK_to ?_ | with_reducible refine st_bind_nil ?_ | with_reducible refine st_bind_f ?_ | with_reducible refine st_bind_tt ?_ | with_reducible refine st_bind_td ?_ | with_reducible refine st_bind_to ?_
    | with_reducible refine st_frz_d ?_ | with_reducible refine st_frz_own ?_ | with_reducible refine st_frz_top ?_ | with_reducible refine st_frz_own_ll ?_ | with_reducible refine st_frz_own_dc ?_ | with_reducible refine st_frz_top_ll ?_ | with_reducible refine st_frz_top_dc ?_ | with_reducible refine st_frzAll_nil ?_ | with_reducible refine st_frzAll_cons ?_
    | with_reducible refine st_if ?_ | with_reducible refine st_B ?_ | with_reducible refine st_and ?_ | with_reducible refine st_or ?_ | with_reducible refine st_not ?_ | with_reducible refine st_yes ?_ | with_reducible refine st_isB ?_ | with_reducible refine st_t ?_ | with_reducible refine st_f ?_ | ((with_reducible refine st_iteT ?_ ?_); decide) | ((with_reducible refine st_iteF ?_ ?_); decide)
    | with_reducible refine st_nt ?_ | with_reducible refine st_nf ?_
    | with_reducible refine st_ret ?_ | with_reducible refine st_next ?_ | with_reducible refine st_retN ?_ | with_reducible refine st_drop ?_ | with_reducible refine st_break ?_ | with_reducible refine st_raise ?_
    | with_reducible refine st_out_d ?_ | with_reducible refine st_out_own ?_ | with_reducible refine st_out_top ?_
    | with_reducible refine st_tup ?_ | with_reducible refine st_lst ?_ | with_reducible refine st_un ?_ | with_reducible refine st_blt ?_ | with_reducible refine st_lookAll_nil ?_ | with_reducible refine st_lookAll_cons ?_
    | with_reducible refine st_unp ?_ | with_reducible refine st_par ?_ | with_reducible refine st_setIx ?_ | with_reducible refine st_onL ?_ | with_reducible refine st_for ?_ | with_reducible refine st_wipe_nil ?_ | with_reducible refine st_wipe_cons ?_ | with_reducible refine st_andV ?_ | with_reducible refine st_orV ?_ | with_reducible refine st_notV ?_ | with_reducible refine st_ifE ?_ | with_reducible refine st_chain ?_
    | with_reducible refine st_sl ?_ | with_reducible refine st_noPart ?_ | with_reducible refine st_part ?_ | with_reducible refine st_lc ?_ | with_reducible refine st_lm ?_
    | with_reducible refine st_seqI ?_ | with_reducible refine st_range1 ?_ | with_reducible refine st_range2 ?_ | with_reducible refine st_enum ?_ | with_reducible refine st_zip ?_
    | with_reducible refine st_nm ?_ | with_reducible refine st_tp ?_ | with_reducible refine st_tps_nil ?_ | with_reducible refine st_tps_cons ?_
    | ((with_reducible refine st_mod_i ?_ ?_); (first | decide | omega)) | ((with_reducible refine st_fdiv_i ?_ ?_); decide) 
    | with_reducible refine st_add_i ?_ | with_reducible refine st_sub_i ?_ | with_reducible refine st_neg_i ?_ | with_reducible refine st_eq_i ?_ | with_reducible refine st_ne_i ?_ | with_reducible refine st_eq_str ?_ | with_reducible refine st_ne_str ?_ | with_reducible refine st_eq_b ?_ | with_reducible refine st_ne_b ?_ | with_reducible refine st_lt_i ?_ | with_reducible refine st_le_i ?_ | with_reducible refine st_gt_i ?_ | with_reducible refine st_ge_i ?_
    | with_reducible refine st_is_n ?_ | with_reducible refine st_isNot_n ?_ | with_reducible refine st_is_b ?_ | with_reducible refine st_isNot_b ?_ | ((with_reducible refine st_ix_l (x := ?_) ?_ ?_); rotate_left; eq_refl) | ((with_reducible refine st_ix_t (x := ?_) ?_ ?_); rotate_left; eq_refl) | with_reducible refine st_len_l ?_ | with_reducible refine st_len_t ?_ | with_reducible refine st_len_lit ?_
    | with_reducible refine st_abs ?_ | with_reducible refine st_max2 ?_ | with_reducible refine st_min2 ?_ | with_reducible refine st_int_i ?_ | with_reducible refine st_int_b ?_ | with_reducible refine st_tuple_l ?_ | with_reducible refine st_tuple_t ?_ | with_reducible refine st_list_l ?_ | with_reducible refine st_list_t ?_ | ((with_reducible refine st_isT ?_ ?_); eq_refl) | ((with_reducible refine st_isTT ?_ ?_); eq_refl) | ((with_reducible refine st_isTF ?_ ?_); eq_refl) | ((with_reducible refine st_isNT ?_ ?_); eq_refl) | ((with_reducible refine st_isNF ?_ ?_); eq_refl)
    | with_reducible refine st_rg1 ?_ | with_reducible refine st_rg2 ?_ | with_reducible refine st_enumL ?_ | with_reducible refine st_zipS ?_ | with_reducible refine st_rev_l ?_ | with_reducible refine st_rev_t ?_
    | with_reducible refine st_ne_ll ?_ | with_reducible refine st_ne_lit ?_ | with_reducible refine st_in_pt ?_ | with_reducible refine st_in_pl ?_
    | with_reducible refine st_sl_l ?_ | with_reducible refine st_sl_t ?_
    | ((with_reducible refine st_iteLen ?_ ?_); eq_refl) | ((with_reducible refine st_iteNLen ?_ ?_); eq_refl) | with_reducible refine st_iteBB ?_ | ((with_reducible refine st_iteND ?_ ?_); omega) | ((with_reducible refine st_iteNF ?_ ?_); omega)
    | ((with_reducible refine st_iteT (decide_eq_true ?_) ?_); omega) | ((with_reducible refine st_iteF (decide_eq_false ?_) ?_); omega))
local macro_rules
  | `(tactic| array_get_dec) => `(tactic| repeat sizeOf_list_dec)
local macro_rules
  | `(tactic| sizeOf_list_dec) => `(tactic| first | with_reducible refine st_ix2_l ?_ | with_reducible refine st_ix2_t ?_ | with_reducible refine st_ix2_s ?_ | with_reducible refine st_ix2_lit ?_ | with_reducible refine st_inK_l ?_ | with_reducible refine st_inK_t ?_ | with_reducible refine st_ninK_l ?_ | with_reducible refine st_ninK_t ?_ | with_reducible refine st_setD ?_ | with_reducible refine st_onDc ?_ | with_reducible refine st_dget2 ?_ | with_reducible refine st_emT ?_ | with_reducible refine st_emD ?_ | with_reducible refine st_disp1 ?_ | with_reducible refine st_disp1k ?_ | with_reducible refine st_range3 ?_ | with_reducible refine st_bor ?_ | with_reducible refine st_borT ?_ | with_reducible refine st_bindT_nil ?_ | with_reducible refine st_bindT_d ?_ | with_reducible refine st_bindT_o ?_ | with_reducible refine st_bindT_t ?_ | with_reducible refine st_toPs_nil ?_ | with_reducible refine st_toPs_d ?_ | with_reducible refine st_toPs_l ?_ | with_reducible refine st_toPs_dc ?_ | with_reducible refine st_tupO ?_ | with_reducible refine st_var_tp ?_ | with_reducible refine st_frz_own_tp ?_ | with_reducible refine st_frz_top_tp ?_ | with_reducible refine st_lmP ?_ | ((with_reducible refine st_onP ?_ ?_); eq_refl) | with_reducible refine st_flat_b ?_ | with_reducible refine st_flat_i ?_)
local macro_rules
  | `(tactic| sizeOf_list_dec) => `(tactic| first | with_reducible refine st_unpO ?_ | with_reducible refine st_unpK ?_ | with_reducible refine st_gO_d ?_ | with_reducible refine st_gO_l ?_ | with_reducible refine st_gO_dc ?_ | with_reducible refine st_gO_nil ?_)
local macro_rules
  | `(tactic| sizeOf_list_dec) => `(tactic| with_reducible refine is_whole_ok fun _ => ?_)
local macro_rules
  | `(tactic| sizeOf_list_dec) => `(tactic| first | with_reducible refine st_in_il ?_ | with_reducible refine st_in_it ?_ | with_reducible refine st_notIn_il ?_ | with_reducible refine st_notIn_it ?_ | with_reducible refine st_ne_ll ?_)
theorem st_eq_tt {ns ms : List Int} {k : R → Prop} (h : k (.d (.bool (decide (ns = ms))))) : cEq (.tuple (ns.map .int)) (.tuple (ms.map .int)) k := by
  refine st_eq (x := .tuple (ns.map .int)) (y := .tuple (ms.map .int)) shaped_intsT shaped_intsT ?_
  show k (.d (.bool (PyData.eqvAll (ns.map .int) (ms.map .int))))
  rw [eqv_ints]
  exact h
theorem nodup_le : ∀ {l m : List Int}, l.Nodup → (∀ z ∈ l, z ∈ m) → l.length ≤ m.length
  | [], _, _, _ => Nat.zero_le _
  | a :: l, m, hn, hs => by
    obtain ⟨h1, h2⟩ := List.nodup_cons.mp hn
    have h3 := hs a List.mem_cons_self
    have h4 := nodup_le (m := m.erase a) h2 fun z hz => (List.mem_erase_of_ne (fun e => h1 (by rw [← e]; exact hz))).mpr (hs z (List.mem_cons_of_mem _ hz))
    rw [List.length_erase_of_mem h3] at h4
    have := List.length_pos_of_mem h3
    rw [List.length_cons]
    omega
theorem range_nd {n : Nat} : (rangeI n).Nodup := rangeI_up.imp fun {a b} h => by omega
/-! ### the apart sets of places, put together -/
def Apt (ts : List (Int × Int)) (T : List Int) : Prop := T.Pairwise fun a b => Tb ts a b = false
def apsS (ts : List (Int × Int)) (F : List (List Int)) (p : Int) : List (List Int) := F ++ (F.filter fun S => !S.any fun one => Tb ts one p).map fun S => S ++ [p]
theorem aps_mem {ts : List (Int × Int)} : ∀ (l done : List Int) (F : List (List Int)), (∀ T, T ∈ F ↔ T.Sublist done ∧ Apt ts T) → (done ++ l).Nodup → ∀ T, T ∈ l.foldl (apsS ts) F ↔ T.Sublist (done ++ l) ∧ Apt ts T
  | [], done, F, h, _, T => by rw [List.append_nil]; exact h T
  | p :: l, done, F, h, hn, T => by
    rw [List.foldl_cons, show done ++ p :: l = (done ++ [p]) ++ l by simp]
    refine aps_mem l (done ++ [p]) (apsS ts F p) (fun U => ?_) (by simpa using hn) T
    unfold apsS
    rw [List.mem_append, h U, List.mem_map]
    have hp : p ∉ done := fun hp => (List.nodup_append.mp hn).2.2 p hp p (by simp) rfl
    constructor
    · rintro (⟨h1, h2⟩ | ⟨S, hS, rfl⟩)
      · exact ⟨h1.trans (List.sublist_append_left _ _), h2⟩
      · obtain ⟨hS, hq⟩ := List.mem_filter.mp hS
        obtain ⟨h1, h2⟩ := (h S).mp hS
        refine ⟨h1.append (List.Sublist.refl _), List.pairwise_append.mpr ⟨h2, List.pairwise_singleton _ _, fun a ha b hb => ?_⟩⟩
        rw [List.mem_singleton.mp hb]
        have hq : (S.any fun one => Tb ts one p) = false := by simpa using hq
        have := List.any_eq_false.mp hq a ha
        simpa using this
    · rintro ⟨h1, h2⟩
      obtain ⟨A, B, rfl, hA, hB⟩ := List.sublist_append_iff.mp h1
      have hB2 : B = [] ∨ B = [p] := by
        cases hB with
        | cons _ h => exact .inl (List.sublist_nil.mp h)
        | cons_cons _ h => exact .inr (by rw [List.sublist_nil.mp h])
      rcases hB2 with rfl | rfl
      · rw [List.append_nil] at h2 ⊢
        exact .inl ⟨hA, h2⟩
      · obtain ⟨q1, _, q3⟩ := List.pairwise_append.mp h2
        refine .inr ⟨A, List.mem_filter.mpr ⟨(h A).mpr ⟨hA, q1⟩, ?_⟩, rfl⟩
        have : (A.any fun one => Tb ts one p) = false := List.any_eq_false.mpr fun a ha => by rw [q3 a ha p (by simp)]; simp
        rw [this]; rfl
def aps (ts : List (Int × Int)) (L : List Int) : List (List Int) := L.foldl (apsS ts) [[]]
theorem aps_iff {ts : List (Int × Int)} {L : List Int} (hn : L.Nodup) {T : List Int} : T ∈ aps ts L ↔ T.Sublist L ∧ Apt ts T := by
  have := aps_mem (ts := ts) L [] [[]] (fun T => by
    rw [List.mem_singleton]
    constructor
    · rintro rfl; exact ⟨List.Sublist.refl _, .nil⟩
    · rintro ⟨h, _⟩; exact List.sublist_nil.mp h) (by simpa using hn) T
  rw [List.nil_append] at this
  exact this
theorem aps_len {ts : List (Int × Int)} : ∀ (l : List Int) (F : List (List Int)), (l.foldl (apsS ts) F).length ≤ F.length * 2 ^ l.length
  | [], F => by simp
  | p :: l, F => by
    rw [List.foldl_cons]
    refine Nat.le_trans (aps_len l _) ?_
    have h1 : (apsS ts F p).length ≤ F.length * 2 := by
      unfold apsS
      rw [List.length_append, List.length_map]
      have := List.length_filter_le (fun S => !S.any fun one => Tb ts one p) F
      omega
    rw [List.length_cons, Nat.pow_succ, Nat.mul_comm (2 ^ l.length) 2, ← Nat.mul_assoc]
    exact Nat.mul_le_mul_right _ h1
/-! ### what the scripts draw -/
theorem cell_ok {ns : List Int} {k : Nat} {X : XF} {Q : R → S → Prop} (h : ∀ z fin, Q (.d (.int z)) fin) : m__law_acell [.d (litD ns), .d (.int k)] X Q := by
  unfold m__law_acell b__law_acell
  refine st_sem rfl ?_
  array_get_dec
  refine st_ite (fun c => ?_) (fun c => ?_)
  · have c := of_decide_eq_true c
    have hk : k < ns.length := by omega
    array_get_dec
    refine st_ix_lit (z := ns[k]) ?_ ?_
    · exact L2.atI_nat (by simp [hk])
    · array_get_dec
      exact h _ _
  · array_get_dec
    exact h _ _
theorem digit_ok {z m : Int} (hm : 0 < m) (hs : m.natAbs < 2 ^ 8999) {X : XF} {Q : R → S → Prop} (h : Q (.d (.int (z % m))) [.l [.int (z / m)], .d (.int m)]) : m__law_adigit [.l [.int z], .d (.int m)] X Q := by
  unfold m__law_adigit b__law_adigit
  refine st_sem rfl ?_
  have ok : okD m := okD_of 8999 hm hs
  array_get_dec
  refine st_fdiv_i ok ?_
  array_get_dec
  refine ⟨by decide, by simp, ?_⟩
  array_get_dec
  exact h
theorem tape_ok {ns : List Int} {k : Nat} (hk : k < 64) {X : XF} {Q : R → S → Prop} (h : ∀ z fin, Q (.own (.l [.int z])) fin) : m__law_atape [.d (litD ns), .d (.int k)] X Q := by
  unfold m__law_atape b__law_atape
  refine st_sem rfl ?_
  array_get_dec
  refine cell_ok fun z fin => ?_
  array_get_dec
  refine st_ite (fun c => ?_) (fun c => ?_)
  · array_get_dec
    exact h _ _
  · array_get_dec
    refine st_mul_i (okM_of 62 17 (by omega) (by decide)) ?_
    array_get_dec
    refine st_mul_i (okM_of 17 7 (by decide) (by omega)) ?_
    array_get_dec
    refine ⟨by decide, ?_⟩
    refine loop_for (fun xs s => ∃ number last : Nat, xs.length ≤ 9 ∧ (∀ x ∈ xs, ∃ t : Nat, t < 9 ∧ x = .int t) ∧ number < 2305843009213693951 ^ (10 - xs.length) ∧ last < 2305843009213693951 ∧
      s = [.d (litD ns), .d (.int k), .d (.int z), .d (.int 2305843009213693951), .d (.int number), .d (.int last), .no]) ?_ ?_ _ _ ?_
    · rintro s ⟨number, last, -, -, -, -, rfl⟩
      array_get_dec
      exact h _ _
    · rintro x xs s kk ⟨number, last, hl, hx, hn, hla, rfl⟩ hk2
      obtain ⟨t, ht, rfl⟩ := hx x List.mem_cons_self
      have hb : number < 2 ^ 620 := Nat.lt_trans (Nat.lt_of_lt_of_le hn (Nat.pow_le_pow_right (by decide) (Nat.sub_le 10 _))) (by decide)
      array_get_dec
      refine st_mul_i (okM_of 620 61 (by omega) (by decide)) ?_
      array_get_dec
      refine st_mul_i (okM_of 62 62 (by omega) (by omega)) ?_
      array_get_dec
      refine st_mul_i (okM_of 16 7 (by decide) (by omega)) ?_
      array_get_dec
      refine hk2 _ ⟨number * 2305843009213693951 + last, (last * last + 40692 * k + t) % 2305843009213693951, ?_, fun x hx' => hx x (List.mem_cons_of_mem _ hx'), ?_, Nat.mod_lt _ (by decide), ?_⟩
      · rw [List.length_cons] at hl; omega
      · rw [List.length_cons] at hn hl
        rw [show 10 - xs.length = (10 - (xs.length + 1)) + 1 by omega, Nat.pow_succ]
        generalize 2305843009213693951 ^ (10 - (xs.length + 1)) = B at hn
        omega
      · show [_, _, _, _, _, _, _] = _
        simp
    · exact ⟨0, ((z % 2305843009213693951 * 48271 + 69621 * k + 11) % 2305843009213693951).toNat, by simp [rangeD_len], fun x hx => (by
        unfold rangeD at hx
        obtain ⟨t, ht, rfl⟩ := List.mem_map.mp hx
        exact ⟨t, by simpa using ht, by simp⟩), by simp [rangeD_len], by omega, by
          show [_, _, _, _, _, _, _] = _
          rw [Int.toNat_of_nonneg (by omega)]
          rfl⟩
theorem aweb_ok {z most : Int} (h0 : 0 ≤ most) (h9 : most ≤ 10) {X : XF} {Q : R → S → Prop} (h : ∀ (n : Int) ts z', n ≤ most → Good n ts → Q (.d (webD n ts)) [.l [.int z'], .d (.int most)]) :
    m__law_aweb [.l [.int z], .d (.int most)] X Q := by
  unfold m__law_aweb b__law_aweb
  refine st_sem rfl ?_
  array_get_dec
  refine digit_ok (by omega) (Nat.lt_of_lt_of_le (show (most + 1).natAbs < 2 ^ 8 by omega) (Nat.pow_le_pow_right (by decide) (by decide))) ?_
  have n0 : 0 ≤ z % (most + 1) := Int.emod_nonneg _ (by omega)
  have n1 : z % (most + 1) < most + 1 := Int.emod_lt_of_pos _ (by omega)
  generalize z % (most + 1) = n at n0 n1
  generalize z / (most + 1) = z1
  array_get_dec
  refine digit_ok (by decide) (by decide) ?_
  generalize z1 % 5 = o
  generalize z1 / 5 = z2
  array_get_dec
  refine ⟨by unfold lim62; omega, ?_⟩
  array_get_dec
  refine loop_range1 (hi := n) (fun i s => ∃ (ts : List (Int × Int)) (z : Int), s = [.l [.int z], .d (.int most), .d (.int n), .d (.int (1 + o)), .l (ts.map pairD), .no, .no] ∧ (∀ p ∈ ts, 0 ≤ p.1 ∧ p.1 < p.2 ∧ p.2 < n ∧ p.1 < i) ∧ ts.Pairwise (fun p q => ltPr p q = true) ∧ (ts.length : Int) ≤ 10 * i) ?_ ?_ ?_
  · rintro s ⟨ts, z, rfl, hp, hs, hl⟩
    array_get_dec
    exact h n ts z (by omega) ⟨by omega, by omega, fun p hm => ⟨(hp p hm).1, (hp p hm).2.1, (hp p hm).2.2.1⟩, hs, by omega⟩
  · rintro i s k hi hin ⟨ts, z, rfl, hp, hs, hl⟩ hk
    array_get_dec
    refine ⟨by unfold lim62; omega, by unfold lim62; omega, ?_⟩
    array_get_dec
    refine loop_range (lo := i + 1) (hi := n) (fun j s => ∃ (ts : List (Int × Int)) (z : Int), s = [.l [.int z], .d (.int most), .d (.int n), .d (.int (1 + o)), .l (ts.map pairD), .d (.int i), .no] ∧ (∀ p ∈ ts, 0 ≤ p.1 ∧ p.1 < p.2 ∧ p.2 < n ∧ (p.1 < i ∨ p.1 = i ∧ p.2 < j)) ∧ ts.Pairwise (fun p q => ltPr p q = true) ∧ (ts.length : Int) ≤ 10 * i + j) ?_ ?_ ?_
    · rintro s ⟨ts, z, rfl, hp, hs, hl⟩
      refine hk _ ⟨ts, z, rfl, fun p hm => ?_, hs, by omega⟩
      obtain ⟨p1, p2, p3, p4⟩ := hp p hm
      exact ⟨p1, p2, p3, by omega⟩
    · rintro j s k2 hj hjn ⟨ts, z, rfl, hp, hs, hl⟩ hk2
      have yes : ∀ z', k2 [.l [.int z'], .d (.int most), .d (.int n), .d (.int (1 + o)), .l ((ts ++ [(i, j)]).map pairD), .d (.int i), .no] := fun z' => by
        refine hk2 _ ⟨ts ++ [(i, j)], z', rfl, fun p hm => ?_, ?_, by rw [List.length_append]; simp; omega⟩
        · rcases List.mem_append.mp hm with hm | hm
          · obtain ⟨p1, p2, p3, p4⟩ := hp p hm
            exact ⟨p1, p2, p3, by omega⟩
          · obtain rfl : p = (i, j) := by simpa using hm
            exact ⟨by omega, by show i < j; omega, hjn, .inr ⟨rfl, by show j < j + 1; omega⟩⟩
        · refine List.pairwise_append.mpr ⟨hs, by simp, fun p hm q hq => ?_⟩
          obtain rfl : q = (i, j) := by simpa using hq
          obtain ⟨p1, p2, p3, p4⟩ := hp p hm
          unfold ltPr
          simp only [Bool.or_eq_true, decide_eq_true_eq, Bool.and_eq_true, beq_iff_eq]
          omega
      have no : ∀ z', k2 [.l [.int z'], .d (.int most), .d (.int n), .d (.int (1 + o)), .l (ts.map pairD), .d (.int i), .no] := fun z' => by
        refine hk2 _ ⟨ts, z', rfl, fun p hm => ?_, hs, by omega⟩
        obtain ⟨p1, p2, p3, p4⟩ := hp p hm
        exact ⟨p1, p2, p3, by omega⟩
      array_get_dec
      refine digit_ok (by decide) (by decide) ?_
      array_get_dec
      refine st_ite (fun q => ?_) (fun q => ?_)
      · array_get_dec
        refine st_append (by rw [List.length_map]; show _ < 16777216; omega) ?_
        array_get_dec
        have := yes (z / 6)
        rw [List.map_append] at this
        exact this
      · array_get_dec
        exact no _
    · refine ⟨ts, z, rfl, fun p hm => ?_, hs, by omega⟩
      obtain ⟨p1, p2, p3, p4⟩ := hp p hm
      exact ⟨p1, p2, p3, .inl p4⟩
  · exact ⟨[], _, rfl, fun p hm => (nomatch hm), .nil, by simp⟩
theorem aweb_of_ok {ns : List Int} {st : Nat} {z : Int} {X : XF} {Q : R → S → Prop} (h : ∀ (n : Int) ts z', n ≤ 10 → Good n ts → Q (.d (webD n ts)) [.d (litD ns), .d (.int st), .l [.int z']]) :
    m__law_aweb_of [.d (litD ns), .d (.int st), .l [.int z]] X Q := by
  unfold m__law_aweb_of b__law_aweb_of
  refine st_sem rfl ?_
  array_get_dec
  have first : ∀ {X : XF} {Q : R → S → Prop}, (∀ (n : Int) ts z', n ≤ 7 → Good n ts → Q (.d (webD n ts)) [.l [.int z'], .d (.int 7)]) → m__law_aweb [.l [.int z], .d (.int 7)] X Q := fun {X Q} h => aweb_ok (by decide) (by decide) h
  refine st_ite (fun c => ?_) (fun c => ?_)
  · array_get_dec
    refine first fun n ts z' hn g => ?_
    array_get_dec
    exact h n ts z' (by omega) g
  array_get_dec
  refine cell_ok (k := 7) fun v fin => ?_
  array_get_dec
  refine st_ite (fun c => ?_) (fun c => ?_)
  · array_get_dec
    refine first fun n ts z' hn g => ?_
    array_get_dec
    exact h n ts z' (by omega) g
  array_get_dec
  refine digit_ok (by decide) (by decide) ?_
  have n0 : 0 ≤ z % 3 := Int.emod_nonneg _ (by decide)
  have n1 : z % 3 < 3 := Int.emod_lt_of_pos _ (by decide)
  generalize z % 3 = m0 at n0 n1
  generalize z / 3 = z1
  array_get_dec
  refine digit_ok (by decide) (by decide) ?_
  generalize z1 % 3 = o
  generalize z1 / 3 = z2
  array_get_dec
  generalize hn8 : 8 + m0 = n
  have n0 : 0 ≤ n := by omega
  have n1 : n ≤ 10 := by omega
  clear hn8
  refine ⟨by unfold lim62; omega, ?_⟩
  array_get_dec
  refine loop_range1 (hi := n) (fun i s => ∃ (ts : List (Int × Int)) (z : Int), s = [.d (litD ns), .d (.int st), .l [.int z], .d (.int n), .d (.int (3 + o)), .l (ts.map pairD), .no, .no] ∧ (∀ p ∈ ts, 0 ≤ p.1 ∧ p.1 < p.2 ∧ p.2 < n ∧ p.1 < i) ∧ ts.Pairwise (fun p q => ltPr p q = true) ∧ (ts.length : Int) ≤ 10 * i) ?_ ?_ ?_
  · rintro s ⟨ts, z, rfl, hp, hs, hl⟩
    array_get_dec
    exact h n ts z (by omega) ⟨by omega, by omega, fun p hm => ⟨(hp p hm).1, (hp p hm).2.1, (hp p hm).2.2.1⟩, hs, by omega⟩
  · rintro i s k hi hin ⟨ts, z, rfl, hp, hs, hl⟩ hk
    array_get_dec
    refine ⟨by unfold lim62; omega, by unfold lim62; omega, ?_⟩
    array_get_dec
    refine loop_range (lo := i + 1) (hi := n) (fun j s => ∃ (ts : List (Int × Int)) (z : Int), s = [.d (litD ns), .d (.int st), .l [.int z], .d (.int n), .d (.int (3 + o)), .l (ts.map pairD), .d (.int i), .no] ∧ (∀ p ∈ ts, 0 ≤ p.1 ∧ p.1 < p.2 ∧ p.2 < n ∧ (p.1 < i ∨ p.1 = i ∧ p.2 < j)) ∧ ts.Pairwise (fun p q => ltPr p q = true) ∧ (ts.length : Int) ≤ 10 * i + j) ?_ ?_ ?_
    · rintro s ⟨ts, z, rfl, hp, hs, hl⟩
      refine hk _ ⟨ts, z, rfl, fun p hm => ?_, hs, by omega⟩
      obtain ⟨p1, p2, p3, p4⟩ := hp p hm
      exact ⟨p1, p2, p3, by omega⟩
    · rintro j s k2 hj hjn ⟨ts, z, rfl, hp, hs, hl⟩ hk2
      have yes : ∀ z', k2 [.d (litD ns), .d (.int st), .l [.int z'], .d (.int n), .d (.int (3 + o)), .l ((ts ++ [(i, j)]).map pairD), .d (.int i), .no] := fun z' => by
        refine hk2 _ ⟨ts ++ [(i, j)], z', rfl, fun p hm => ?_, ?_, by rw [List.length_append]; simp; omega⟩
        · rcases List.mem_append.mp hm with hm | hm
          · obtain ⟨p1, p2, p3, p4⟩ := hp p hm
            exact ⟨p1, p2, p3, by omega⟩
          · obtain rfl : p = (i, j) := by simpa using hm
            exact ⟨by omega, by show i < j; omega, hjn, .inr ⟨rfl, by show j < j + 1; omega⟩⟩
        · refine List.pairwise_append.mpr ⟨hs, by simp, fun p hm q hq => ?_⟩
          obtain rfl : q = (i, j) := by simpa using hq
          obtain ⟨p1, p2, p3, p4⟩ := hp p hm
          unfold ltPr
          simp only [Bool.or_eq_true, decide_eq_true_eq, Bool.and_eq_true, beq_iff_eq]
          omega
      have no : ∀ z', k2 [.d (litD ns), .d (.int st), .l [.int z'], .d (.int n), .d (.int (3 + o)), .l (ts.map pairD), .d (.int i), .no] := fun z' => by
        refine hk2 _ ⟨ts, z', rfl, fun p hm => ?_, hs, by omega⟩
        obtain ⟨p1, p2, p3, p4⟩ := hp p hm
        exact ⟨p1, p2, p3, by omega⟩
      array_get_dec
      refine digit_ok (by decide) (by decide) ?_
      array_get_dec
      refine st_ite (fun q => ?_) (fun q => ?_)
      · array_get_dec
        refine st_append (by rw [List.length_map]; show _ < 16777216; omega) ?_
        array_get_dec
        have := yes (z / 6)
        rw [List.map_append] at this
        exact this
      · array_get_dec
        refine st_ite (fun q => ?_) (fun q => ?_)
        · array_get_dec
          refine st_append (by rw [List.length_map]; show _ < 16777216; omega) ?_
          array_get_dec
          have := yes (z / 6)
          rw [List.map_append] at this
          exact this
        · array_get_dec
          exact no _
    · refine ⟨ts, z, rfl, fun p hm => ?_, hs, by omega⟩
      obtain ⟨p1, p2, p3, p4⟩ := hp p hm
      exact ⟨p1, p2, p3, .inl p4⟩
  · exact ⟨[], _, rfl, fun p hm => (nomatch hm), .nil, by simp⟩
theorem lkT_app {α : Type} {ps : List (List Int × α)} {k S : List Int} {x : α} : lkT (ps ++ [(k, x)]) S = (lkT ps S).or (if k = S then some x else none) := by
  unfold lkT
  rw [List.find?_append, List.find?_cons, List.find?_nil]
  by_cases h : k = S
  · rw [decide_eq_true h, if_pos h]
    cases List.find? (fun p => decide (p.1 = S)) ps <;> rfl
  · rw [decide_eq_false h, if_neg h]
    cases List.find? (fun p => decide (p.1 = S)) ps <;> rfl
theorem lkT_rep {α : Type} {k S : List Int} {x : α} : ∀ {ps : List (List Int × α)}, lkT (ps.map fun p => if p.1 = k then (p.1, x) else p) S = if S = k then (lkT ps k).map fun _ => x else lkT ps S
  | [] => by unfold lkT; simp
  | p :: ps => by
    have ih := lkT_rep (k := k) (S := S) (x := x) (ps := ps)
    unfold lkT at ih ⊢
    rw [List.map_cons, List.find?_cons, List.find?_cons, List.find?_cons]
    by_cases h : p.1 = k
    · rw [if_pos h]
      dsimp only
      by_cases h2 : S = k
      · subst h2
        rw [decide_eq_true h, if_pos rfl]
        rfl
      · rw [if_neg h2, decide_eq_false (show ¬ p.1 = S from fun e => h2 (e ▸ h))]
        rw [if_neg h2] at ih
        exact ih
    · rw [if_neg h, decide_eq_false h]
      by_cases h2 : S = k
      · subst h2
        rw [decide_eq_false h, if_pos rfl]
        rw [if_pos rfl] at ih
        exact ih
      · rw [if_neg h2] at ih ⊢
        cases decide (p.1 = S) with
        | true => rfl
        | false => exact ih
theorem lkT_put {α : Type} {ps : List (List Int × α)} {k S : List Int} {x : α} : lkT (putL ps k x) S = if S = k then some x else lkT ps S := by
  unfold putL
  split
  · rename_i h
    rw [lkT_rep]
    split
    · obtain ⟨v, e⟩ := Option.isSome_iff_exists.mp h
      rw [e]
      rfl
    · rfl
  · rename_i h
    rw [lkT_app]
    have h : lkT ps k = none := by simpa using h
    by_cases e : S = k
    · subst e
      rw [h, if_pos rfl]
      rfl
    · rw [if_neg e, if_neg (fun q => e q.symm), Option.or_none]
/-! ### the fewest hues, plainly -/
theorem least_of {P : Nat → Prop} : ∀ n, P n → ∃ k, P k ∧ ∀ j, P j → k ≤ j := fun n => by
  induction n using Nat.strongRecOn with
  | ind n ih =>
    intro h
    by_cases q : ∃ m, m < n ∧ P m
    · obtain ⟨m, hm, pm⟩ := q
      exact ih m hm pm
    · exact ⟨n, h, fun j hj => Nat.le_of_not_lt fun hlt => q ⟨j, hlt, hj⟩⟩
def Hued (ts : List (Int × Int)) (S : List Int) (k : Nat) (c : Int → Nat) : Prop := (∀ z ∈ S, c z < k) ∧ ∀ a ∈ S, ∀ b ∈ S, a ≠ b → Tb ts a b = true → c a ≠ c b
theorem hued_any (ts : List (Int × Int)) (S : List Int) : ∃ c, Hued ts S S.length c := ⟨fun z => S.idxOf z, fun z hz => List.idxOf_lt_length_of_mem hz, fun a ha b hb hab _ e => hab (by
  have e1 := List.getElem_idxOf (List.idxOf_lt_length_of_mem ha)
  have e2 := List.getElem_idxOf (List.idxOf_lt_length_of_mem hb)
  rw [← e1, ← e2]
  congr 1)⟩
noncomputable def chi (ts : List (Int × Int)) (S : List Int) : Nat := Classical.epsilon fun k => (∃ c, Hued ts S k c) ∧ ∀ j, (∃ c, Hued ts S j c) → k ≤ j
theorem chi_ok (ts : List (Int × Int)) (S : List Int) : (∃ c, Hued ts S (chi ts S) c) ∧ ∀ j, (∃ c, Hued ts S j c) → chi ts S ≤ j := Classical.epsilon_spec (p := fun k => (∃ c, Hued ts S k c) ∧ ∀ j, (∃ c, Hued ts S j c) → k ≤ j) (least_of _ (hued_any ts S))
theorem chi_le {ts : List (Int × Int)} {S : List Int} {k : Nat} {c : Int → Nat} (h : Hued ts S k c) : chi ts S ≤ k := (chi_ok ts S).2 k ⟨c, h⟩
theorem chi_len (ts : List (Int × Int)) (S : List Int) : chi ts S ≤ S.length := (chi_ok ts S).2 _ (hued_any ts S)
theorem chi_nil {ts : List (Int × Int)} : chi ts [] = 0 := Nat.le_zero.mp (chi_len ts [])
def ApS (ts : List (Int × Int)) (P : List Int) : Prop := P.Pairwise fun a b => Tb ts a b = false
def fpG (ts : List (Int × Int)) : List (List Int) → List Int → List (List Int)
  | acc, [] => acc
  | acc, p :: r => fpG ts (acc ++ (acc.filter fun P => !(P.any fun o => Tb ts o p)).map (· ++ [p])) r
def fp (ts : List (Int × Int)) (S : List Int) : List (List Int) := fpG ts [S.take 1] (S.drop 1)
theorem fpG_iff {ts : List (Int × Int)} {P : List Int} : ∀ {r : List Int} {acc : List (List Int)}, (∀ P0 ∈ acc, ApS ts P0) → (P ∈ fpG ts acc r ↔ ∃ P0 ∈ acc, ∃ T, T.Sublist r ∧ P = P0 ++ T ∧ ApS ts (P0 ++ T))
  | [], acc, ha => by
    constructor
    · intro h
      exact ⟨P, h, [], .slnil, by rw [List.append_nil], by rw [List.append_nil]; exact ha P h⟩
    · rintro ⟨P0, h0, T, hT, rfl, _⟩
      rw [List.sublist_nil] at hT
      rw [hT, List.append_nil]
      exact h0
  | p :: r, acc, ha => by
    have ext : ∀ P0, P0 ∈ (acc.filter fun P => !(P.any fun o => Tb ts o p)).map (· ++ [p]) ↔ ∃ P1 ∈ acc, ApS ts (P1 ++ [p]) ∧ P0 = P1 ++ [p] := fun P0 => by
      rw [List.mem_map]
      constructor
      · rintro ⟨P1, h1, rfl⟩
        obtain ⟨h1, h2⟩ := List.mem_filter.mp h1
        refine ⟨P1, h1, List.pairwise_append.mpr ⟨ha P1 h1, List.pairwise_singleton _ _, fun a h b hb => ?_⟩, rfl⟩
        rw [List.mem_singleton.mp hb]
        have : (P1.any fun o => Tb ts o p) = false := by simpa using h2
        simpa using List.any_eq_false.mp this a h
      · rintro ⟨P1, h1, h2, rfl⟩
        refine ⟨P1, List.mem_filter.mpr ⟨h1, ?_⟩, rfl⟩
        have : (P1.any fun o => Tb ts o p) = false := List.any_eq_false.mpr fun a h => by
          rw [(List.pairwise_append.mp h2).2.2 a h p (by simp)]
          decide
        rw [this]
        rfl
    show P ∈ fpG ts (acc ++ (acc.filter fun P => !(P.any fun o => Tb ts o p)).map (· ++ [p])) r ↔ _
    rw [fpG_iff (r := r) fun P0 h0 => by
      rcases List.mem_append.mp h0 with h0 | h0
      · exact ha P0 h0
      · obtain ⟨P1, h1, h2, rfl⟩ := (ext P0).mp h0
        exact h2]
    constructor
    · rintro ⟨P0, h0, T, hT, rfl, hA⟩
      rcases List.mem_append.mp h0 with h0 | h0
      · exact ⟨P0, h0, T, .cons _ hT, rfl, hA⟩
      · obtain ⟨P1, h1, h2, rfl⟩ := (ext P0).mp h0
        rw [List.append_assoc] at hA ⊢
        exact ⟨P1, h1, p :: T, .cons_cons _ hT, rfl, hA⟩
    · rintro ⟨P0, h0, T, hT, rfl, hA⟩
      cases hT with
      | cons _ hT => exact ⟨P0, List.mem_append_left _ h0, T, hT, rfl, hA⟩
      | cons_cons _ hT =>
        rename_i T
        rw [show P0 ++ p :: T = (P0 ++ [p]) ++ T by simp] at hA ⊢
        exact ⟨P0 ++ [p], List.mem_append_right _ ((ext _).mpr ⟨P0, h0, (List.pairwise_append.mp hA).1, rfl⟩), T, hT, rfl, hA⟩
/-- the apart parts that have the first place -/
theorem fp_iff {ts : List (Int × Int)} {x : Int} {r P : List Int} : P ∈ fp ts (x :: r) ↔ ∃ T, T.Sublist r ∧ P = x :: T ∧ ApS ts P := by
  unfold fp
  rw [show (x :: r).take 1 = [x] from rfl, show (x :: r).drop 1 = r from rfl, fpG_iff fun P0 h0 => by rw [List.mem_singleton.mp h0]; exact List.pairwise_singleton _ _]
  constructor
  · rintro ⟨P0, h0, T, hT, rfl, hA⟩
    rw [List.mem_singleton.mp h0] at hA ⊢
    exact ⟨T, hT, rfl, hA⟩
  · rintro ⟨T, hT, rfl, hA⟩
    exact ⟨[x], by simp, T, hT, rfl, hA⟩
def wo (S P : List Int) : List Int := S.filter fun z => !decide (z ∈ P)
theorem wo_mem {S P : List Int} {z : Int} : z ∈ wo S P ↔ z ∈ S ∧ z ∉ P := by
  unfold wo
  rw [List.mem_filter]
  simp
theorem apt_pair {ts : List (Int × Int)} {P : List Int} (h : ApS ts P) {a b : Int} (ha : a ∈ P) (hb : b ∈ P) (hab : a ≠ b) : Tb ts a b = false := by
  induction P with
  | nil => cases ha
  | cons x P ih =>
    obtain ⟨h1, h2⟩ := List.pairwise_cons.mp h
    rcases List.mem_cons.mp ha with rfl | ha'
    · rcases List.mem_cons.mp hb with rfl | hb'
      · exact (hab rfl).elim
      · exact h1 b hb'
    · rcases List.mem_cons.mp hb with rfl | hb'
      · rw [Tb_symm]; exact h1 a ha'
      · exact ih h2 ha' hb'
theorem chi_part {ts : List (Int × Int)} {S P : List Int} (h : ApS ts P) : chi ts S ≤ 1 + chi ts (wo S P) := by
  obtain ⟨⟨c, h1, h2⟩, _⟩ := chi_ok ts (wo S P)
  refine chi_le (c := fun z => if z ∈ P then chi ts (wo S P) else c z) ⟨fun z hz => ?_, fun a ha b hb hab ht => ?_⟩
  · by_cases hp : z ∈ P
    · simp only [if_pos hp]; omega
    · simp only [if_neg hp]
      have := h1 z (wo_mem.mpr ⟨hz, hp⟩)
      omega
  · by_cases pa : a ∈ P
    · by_cases pb : b ∈ P
      · rw [apt_pair h pa pb hab] at ht; cases ht
      · simp only [if_pos pa, if_neg pb]
        have := h1 b (wo_mem.mpr ⟨hb, pb⟩)
        omega
    · have la := h1 a (wo_mem.mpr ⟨ha, pa⟩)
      by_cases pb : b ∈ P
      · simp only [if_neg pa, if_pos pb]
        omega
      · simp only [if_neg pa, if_neg pb]
        exact h2 a (wo_mem.mpr ⟨ha, pa⟩) b (wo_mem.mpr ⟨hb, pb⟩) hab ht
theorem chi_best {ts : List (Int × Int)} {x : Int} {r : List Int} (nd : (x :: r).Pairwise (· < ·)) : ∃ P ∈ fp ts (x :: r), 1 + chi ts (wo (x :: r) P) = chi ts (x :: r) := by
  obtain ⟨⟨c, h1, h2⟩, _⟩ := chi_ok ts (x :: r)
  generalize hk : chi ts (x :: r) = k at *
  have hx := h1 x List.mem_cons_self
  have hin : (x :: r.filter fun z => decide (c z = c x)) ∈ fp ts (x :: r) := by
    have sub : (x :: r.filter fun z => decide (c z = c x)).Sublist (x :: r) := .cons_cons _ List.filter_sublist
    refine fp_iff.mpr ⟨_, List.filter_sublist, rfl, List.Pairwise.imp_of_mem (fun {a b} ha hb lt => ?_) (nd.sublist sub)⟩
    have ca : ∀ z ∈ (x :: r.filter fun z => decide (c z = c x)), c z = c x := fun z hz => by
      rcases List.mem_cons.mp hz with rfl | hz
      · rfl
      · exact of_decide_eq_true (List.mem_filter.mp hz).2
    cases hT : Tb ts a b with
    | false => rfl
    | true => exact (h2 a (sub.subset ha) b (sub.subset hb) (by omega) hT ((ca a ha).trans (ca b hb).symm)).elim
  refine ⟨_, hin, ?_⟩
  generalize hP : (x :: r.filter fun z => decide (c z = c x)) = P at *
  have hA : ApS ts P := (fp_iff.mp hin).choose_spec.2.2
  have ge := chi_part (S := x :: r) hA
  have inP : ∀ z ∈ x :: r, c z = c x → z ∈ P := fun z hz e => by
    rw [← hP]
    rcases List.mem_cons.mp hz with rfl | hz
    · exact List.mem_cons_self
    · exact List.mem_cons_of_mem _ (List.mem_filter.mpr ⟨hz, decide_eq_true e⟩)
  have le : chi ts (wo (x :: r) P) ≤ k - 1 := chi_le (c := fun z => if c z = k - 1 then c x else c z) ⟨fun z hz => by
    obtain ⟨hz, hn⟩ := wo_mem.mp hz
    have ne : c z ≠ c x := fun e => hn (inP z hz e)
    have := h1 z hz
    show (if c z = k - 1 then c x else c z) < k - 1
    split <;> omega, fun a ha b hb hab ht => by
    obtain ⟨ha, na⟩ := wo_mem.mp ha
    obtain ⟨hb, nb⟩ := wo_mem.mp hb
    have ea : c a ≠ c x := fun e => na (inP a ha e)
    have eb : c b ≠ c x := fun e => nb (inP b hb e)
    have := h2 a ha b hb hab ht
    show (if c a = k - 1 then c x else c a) ≠ (if c b = k - 1 then c x else c b)
    split <;> split <;> omega⟩
  omega
/-! ### all sets -/
def sb : Nat → List (List Int)
  | 0 => [[]]
  | k + 1 => sb k ++ (sb k).map (· ++ [(k : Int)])
theorem sb_len : ∀ k, (sb k).length = 2 ^ k
  | 0 => rfl
  | k + 1 => by
    unfold sb
    rw [List.length_append, List.length_map, sb_len k, Nat.pow_succ]
    omega
theorem sb_iff {S : List Int} : ∀ {n : Nat}, S ∈ sb n ↔ Set' n S
  | 0 => by
    unfold sb
    rw [List.mem_singleton]
    constructor
    · rintro rfl; exact ⟨.nil, fun z hz => by cases hz⟩
    · intro h
      cases S with
      | nil => rfl
      | cons z S => have := h.lt z List.mem_cons_self; omega
  | n + 1 => by
    unfold sb
    rw [List.mem_append, List.mem_map]
    constructor
    · rintro (h | ⟨T, hT, rfl⟩)
      · have h := sb_iff.mp h
        exact ⟨h.up, fun z hz => by have := h.lt z hz; omega⟩
      · have h := sb_iff.mp hT
        refine ⟨List.pairwise_append.mpr ⟨h.up, List.pairwise_singleton _ _, fun a ha b hb => ?_⟩, fun z hz => ?_⟩
        · rw [List.mem_singleton.mp hb]; have := h.lt a ha; omega
        · rcases List.mem_append.mp hz with hz | hz
          · have := h.lt z hz; omega
          · rw [List.mem_singleton.mp hz]; omega
    · intro h
      by_cases hn : (n : Int) ∈ S
      · right
        obtain ⟨A, B, e⟩ := List.append_of_mem hn
        subst e
        have up := List.pairwise_append.mp h.up
        cases B with
        | cons b B =>
          have l1 := (List.pairwise_cons.mp up.2.1).1 b List.mem_cons_self
          have := h.lt b (by simp)
          omega
        | nil => exact ⟨A, sb_iff.mpr ⟨up.1, fun z hz => by
            have := up.2.2 z hz n (by simp)
            have := h.lt z (List.mem_append_left _ hz)
            omega⟩, rfl⟩
      · left
        exact sb_iff.mpr ⟨h.up, fun z hz => by
          have := h.lt z hz
          have : z ≠ n := fun e => hn (e ▸ hz)
          omega⟩
theorem sb_order : ∀ n, (sb n).Pairwise fun A B => ¬ ∀ z ∈ B, z ∈ A
  | 0 => List.pairwise_singleton _ _
  | n + 1 => by
    have lt : ∀ A ∈ sb n, (n : Int) ∉ A := fun A hA h => by have := (sb_iff.mp hA).lt _ h; omega
    have h1 : ((sb n).map (· ++ [(n : Int)])).Pairwise fun A B => ¬ ∀ z ∈ B, z ∈ A := List.pairwise_map.mpr (List.Pairwise.imp_of_mem (fun {A B} hA hB h q => h fun z hz => by
      rcases List.mem_append.mp (q z (List.mem_append_left _ hz)) with h2 | h2
      · exact h2
      · rw [List.mem_singleton.mp h2] at hz
        exact (lt B hB hz).elim) (sb_order n))
    refine List.pairwise_append.mpr ⟨sb_order n, h1, fun A hA B hB q => ?_⟩
    obtain ⟨T, hT, rfl⟩ := List.mem_map.mp hB
    exact lt A hA (q n (by simp))
theorem sb_before {n : Nat} {pre suf : List (List Int)} {S T : List Int} (e : sb n = pre ++ S :: suf) (hT : T ∈ sb n) (sub : ∀ z ∈ T, z ∈ S) (ne : T ≠ S) : T ∈ pre := by
  have o := sb_order n
  rw [e] at o hT
  rcases List.mem_append.mp hT with h | h
  · exact h
  · rcases List.mem_cons.mp h with h | h
    · exact (ne h).elim
    · exact ((List.pairwise_cons.mp (List.pairwise_append.mp o).2.1).1 T h sub).elim
/-! ### the fewest hues: floors -/
theorem st_minI {α : Type} {l : List α} {f : α → Int} {k : R → Prop} (h0 : l ≠ []) (h : ∀ m, (∃ a ∈ l, m = f a) → (∀ a ∈ l, m ≤ f a) → k (.d (.int m))) : bMinL [.list (l.map fun a => .int (f a))] k := by
  unfold bMinL
  dsimp only
  rw [show (l.map fun a => PyData.int (f a)) = (l.map f).map .int by rw [List.map_map]; rfl, intsOf_map']
  refine ⟨by rw [List.length_map]; exact List.length_pos_iff.mpr h0, fun m hm hl => h m ?_ fun a ha => hl _ (List.mem_map.mpr ⟨a, ha, rfl⟩)⟩
  obtain ⟨a, ha, e⟩ := List.mem_map.mp hm
  exact ⟨a, ha, e.symm⟩
abbrev dcI (kvs : List (List Int × Int)) : List (D × D) := dcT (kvs.map fun p => (p.1, PyData.int p.2))
theorem dcI_in {kvs : List (List Int × Int)} {k : List Int} {P : R → Prop} (q : P (.d (.bool (lkT kvs k).isSome))) : cInK (tupI k) (.dict (dcI kvs)) P := dcT_in (by rw [lkT_map PyData.int, Option.isSome_map]; exact q)
theorem dcI_ix {kvs : List (List Int × Int)} {k : List Int} {x : Int} {P : R → Prop} (e : lkT kvs k = some x) (q : P (.d (.int x))) : ixD2 (.dict (dcI kvs)) (tupI k) P := dcT_ix (by rw [lkT_map PyData.int, e]; rfl) q
theorem dcI_put {kvs : List (List Int × Int)} {k : List Int} {x : Int} {Q : List (D × D) → Prop} (hl : kvs.length < 100000) (q : Q (dcI (putL kvs k x))) : dPut (dcI kvs) (tupI k) (.int x) Q := by
  refine dcT_put (by rw [List.length_map]; exact hl) ?_
  rw [putL_map PyData.int]
  exact q
noncomputable def flo (ts : List (Int × Int)) (L : List (List Int)) : List (List Int × Int) := L.map fun S => (S, (chi ts S : Int))
theorem flo_lk {ts : List (Int × Int)} {S : List Int} : ∀ {L : List (List Int)}, S ∈ L → lkT (flo ts L) S = some (chi ts S : Int)
  | T :: L, h => by
    unfold flo lkT
    rw [List.map_cons, List.find?_cons]
    dsimp only
    by_cases e : T = S
    · subst e
      rw [decide_eq_true rfl]
      rfl
    · rw [decide_eq_false e]
      rcases List.mem_cons.mp h with h | h
      · exact (e h.symm).elim
      · exact flo_lk h
theorem flo_no {ts : List (Int × Int)} {S : List Int} {L : List (List Int)} (h : S ∉ L) : lkT (flo ts L) S = none := by
  cases e : lkT (flo ts L) S with
  | none => rfl
  | some v =>
    have q : (lkT (flo ts L) S).isSome = true := by rw [e]; rfl
    have := lkT_iff.mp q
    unfold flo at this
    rw [List.map_map] at this
    obtain ⟨T, hT, e2⟩ := List.mem_map.mp this
    exact (h (e2 ▸ hT)).elim
theorem flo_put {ts : List (Int × Int)} {S : List Int} {L : List (List Int)} (h : S ∉ L) : putL (flo ts L) S (chi ts S : Int) = flo ts (L ++ [S]) := by
  unfold putL
  rw [flo_no h]
  unfold flo
  rw [List.map_append]
  rfl
theorem sb_nodup (n : Nat) : (sb n).Nodup := (sb_order n).imp fun {A B} h e => h (by subst e; exact fun z hz => hz)
section
variable {n : Int} {ts : List (Int × Int)} {S P : List Int} {X : XF} {Q : R → Hs.S → Prop}
theorem all_sets_ok (h0 : 0 ≤ n) (h10 : n ≤ 10) (h : ∀ fin, Q (.own (.l ((sb n.toNat).map tupI))) fin) : m_all_sets [.d (.int n)] X Q := by
  unfold m_all_sets b_all_sets
  refine st_sem rfl ?_
  array_get_dec
  refine ⟨by unfold lim62; omega, ?_⟩
  array_get_dec
  refine loop_range1 (fun i s => ∃ w : SV, w = .l ((sb i.toNat).map tupI) ∧ s = [.d (.int n), w, .no, .no]) (fun s hI => ?_) (fun i s k i0 ilt hI hk => ?_) ⟨_, rfl, rfl⟩
  · obtain ⟨w, rfl, rfl⟩ := hI
    rw [show max 0 n = n by omega]
    array_get_dec
    exact h _
  · obtain ⟨w, rfl, rfl⟩ := hI
    have sl := sb_len i.toNat
    have s2 : 2 ^ i.toNat ≤ 2 ^ 10 := Nat.pow_le_pow_right (by decide) (by omega)
    have s3 : (2 : Nat) ^ 10 = 1024 := by decide
    array_get_dec
    refine ⟨by rw [List.length_map]; show _ ≤ 16777216; omega, ?_⟩
    array_get_dec
    refine comp_list tupI (fun T => tupI (T ++ [i])) _ (fun T hT kT hkT => ?_) ?_
    · have few := (sb_iff.mp hT).few (by omega)
      array_get_dec
      rw [show tupI T = PyData.tuple (T.map .int) from rfl]
      refine st_add_t (by rw [List.length_map]; show _ + 1 ≤ 16777216; omega) ?_
      array_get_dec
      rw [show tupI (T ++ [i]) = PyData.tuple (T.map .int ++ [.int i]) by unfold tupI; rw [List.map_append]; rfl] at hkT
      exact hkT
    · array_get_dec
      refine st_add_l (by rw [List.length_map, List.length_map]; show _ ≤ 16777216; omega) ?_
      array_get_dec
      refine hk _ ⟨_, ?_, rfl⟩
      rw [show (i + 1).toNat = i.toNat + 1 by omega]
      show _ = SV.l ((sb i.toNat ++ (sb i.toNat).map (· ++ [((i.toNat : Nat) : Int)])).map tupI)
      rw [List.map_append, List.map_map, show ((i.toNat : Nat) : Int) = i by omega]
      rfl
theorem without_ok (hl : S.length ≤ 100) (h : ∀ fin, Q (.d (.tuple ((wo S P).map .int))) fin) : m_without [.d (.tuple (S.map .int)), .d (.tuple (P.map .int))] X Q := by
  unfold m_without b_without
  refine st_sem rfl ?_
  array_get_dec
  refine ⟨by rw [List.length_map]; show _ ≤ 16777216; omega, ?_⟩
  array_get_dec
  refine comp_filter PyData.int PyData.int (fun z => !decide (z ∈ P)) _ (fun z hz kT kF hT hF => ?_) ?_
  · array_get_dec
    refine st_ite (fun c => ?_) (fun c => ?_)
    · array_get_dec
      exact hT c
    · exact hF c
  · array_get_dec
    exact h _
theorem fp_fold : ∀ (r : List Int) (acc : List (List Int)), fpG ts acc r = r.foldl (apsS ts) acc
  | [], _ => rfl
  | p :: r, acc => by
    show fpG ts _ r = _
    rw [fp_fold r, List.foldl_cons]
    rfl
theorem first_parts_ok (hl : S.length ≤ 10) (h : ∀ fin, Q (.own (.l ((fp ts S).map tupI))) fin) : m_first_parts [.d (webD n ts), .d (.tuple (S.map .int))] X Q := by
  unfold m_first_parts b_first_parts
  refine st_sem rfl ?_
  array_get_dec
  rw [show (1 : Int) = ((1 : Nat) : Int) from rfl, cut_to, cut_from]
  refine loop_list PyData.int (fun l s => ∃ done, ∃ w : SV, S.drop 1 = done ++ l ∧ w = .l ((done.foldl (apsS ts) [S.take 1]).map tupI) ∧ s = [.d (webD n ts), .d (.tuple (S.map .int)), w, .no, .no, .no, .no]) (fun s hI => ?_) (fun p l s k hI hk => ?_) _ _ ⟨[], _, rfl, rfl, rfl⟩
  · obtain ⟨done, w, e, rfl, rfl⟩ := hI
    rw [List.append_nil] at e
    array_get_dec
    rw [← e, ← fp_fold]
    exact h _
  · obtain ⟨done, w, e, rfl, rfl⟩ := hI
    have dl : done.length + 1 + l.length = (S.drop 1).length := by rw [e, List.length_append, List.length_cons]; omega
    rw [List.length_drop] at dl
    have fl := aps_len (ts := ts) done [S.take 1]
    have f2 : 2 ^ done.length ≤ 2 ^ 10 := Nat.pow_le_pow_right (by decide) (by omega)
    have f3 : (2 : Nat) ^ 10 = 1024 := by decide
    rw [List.length_singleton, Nat.one_mul] at fl
    have el : ∀ T ∈ done.foldl (apsS ts) [S.take 1], T.length ≤ 20 := fun T hT => by
      rw [← fp_fold] at hT
      have gen : ∀ (r : List Int) (acc : List (List Int)) (m : Nat), (∀ T ∈ acc, T.length ≤ m) → ∀ T ∈ fpG ts acc r, T.length ≤ m + r.length := by
        intro r
        induction r with
        | nil => intro acc m ha T hT; exact ha T hT
        | cons q r ih =>
          intro acc m ha T hT
          have := ih _ (m + 1) (fun U hU => by
            rcases List.mem_append.mp hU with hU | hU
            · have := ha U hU; omega
            · obtain ⟨V, hV, rfl⟩ := List.mem_map.mp hU
              have := ha V (List.mem_filter.mp hV).1
              rw [List.length_append]
              simp
              omega) T hT
          rw [List.length_cons]
          omega
      have := gen done [S.take 1] 1 (fun U hU => by rw [List.mem_singleton.mp hU, List.length_take]; omega) T hT
      omega
    have ef : (done ++ [p]).foldl (apsS ts) [S.take 1] = apsS ts (done.foldl (apsS ts) [S.take 1]) p := by rw [List.foldl_append]; rfl
    generalize done.foldl (apsS ts) [S.take 1] = F at fl el ef
    array_get_dec
    refine ⟨by rw [List.length_map]; show _ ≤ 16777216; omega, ?_⟩
    array_get_dec
    refine comp_filter tupI (fun T => tupI (T ++ [p])) (fun T => !T.any fun o => Tb ts o p) _ (fun T hT kT kF hT1 hF1 => ?_) ?_
    · have tl := el T hT
      array_get_dec
      rw [show tupI T = PyData.tuple (T.map .int) from rfl]
      array_get_dec
      refine ⟨by rw [List.length_map]; show _ ≤ 16777216; omega, ?_⟩
      array_get_dec
      refine comp_list PyData.int (fun o => .bool (Tb ts o p)) _ (fun o ho kT2 hkT2 => ?_) ?_
      · array_get_dec
        refine tied_in_ok fun fin => ?_
        array_get_dec
        exact hkT2
      · array_get_dec
        refine st_any_map ?_
        array_get_dec
        refine st_ite (fun c => ?_) (fun c => ?_)
        · array_get_dec
          refine st_add_t (by rw [List.length_map]; show _ + 1 ≤ 16777216; omega) ?_
          array_get_dec
          have q := hT1 c
          rw [show tupI (T ++ [p]) = PyData.tuple (T.map .int ++ [.int p]) by unfold tupI; rw [List.map_append]; rfl] at q
          exact q
        · exact hF1 c
    · array_get_dec
      have fl2 := List.length_filter_le (fun T : List Int => !T.any fun o => Tb ts o p) F
      refine st_add_l (by rw [List.length_map, List.length_map]; show _ ≤ 16777216; omega) ?_
      array_get_dec
      refine hk _ ⟨done ++ [p], _, by rw [e, List.append_assoc]; rfl, ?_, rfl⟩
      rw [ef]
      unfold apsS
      rw [List.map_append, List.map_map]
      rfl
end
theorem st_ne_tt {ns ms : List Int} {k : R → Prop} (h : k (.d (.bool (!decide (ns = ms))))) : cNe (.tuple (ns.map .int)) (.tuple (ms.map .int)) k := by
  refine st_ne (x := .tuple (ns.map .int)) (y := .tuple (ms.map .int)) shaped_intsT shaped_intsT ?_
  show k (.d (.bool (!PyData.eqvAll (ns.map .int) (ms.map .int))))
  rw [eqv_ints]
  exact h
theorem range_set {n : Int} (h0 : 0 ≤ n) : Set' n (rangeI n.toNat) := by rw [range_F]; exact set_rangeF (by decide) (by omega)
/-! ### floors and hues told -/
theorem chi_min {ts : List (Int × Int)} {x : Int} {r : List Int} (up : (x :: r).Pairwise (· < ·)) {m : Int} (h1 : ∃ P ∈ fp ts (x :: r), m = (chi ts (wo (x :: r) P) : Int)) (h2 : ∀ P ∈ fp ts (x :: r), m ≤ (chi ts (wo (x :: r) P) : Int)) : 1 + m = (chi ts (x :: r) : Int) := by
  obtain ⟨P, hP, rfl⟩ := h1
  obtain ⟨P2, hP2, e2⟩ := chi_best (ts := ts) up
  have := h2 P2 hP2
  have := chi_part (S := x :: r) (fp_iff.mp hP).choose_spec.2.2
  omega
theorem fp_sub {ts : List (Int × Int)} {S P : List Int} (hS : S ≠ []) (hP : P ∈ fp ts S) : P.Sublist S ∧ ApS ts P ∧ (∃ x, x ∈ P) := by
  cases S with
  | nil => exact (hS rfl).elim
  | cons x r =>
    obtain ⟨T, hT, rfl, hA⟩ := fp_iff.mp hP
    exact ⟨.cons_cons _ hT, hA, x, List.mem_cons_self⟩
theorem wo_set {n : Int} {S P : List Int} (hs : Set' n S) : Set' n (wo S P) := ⟨List.Pairwise.filter _ hs.up, fun z hz => hs.lt z (wo_mem.mp hz).1⟩
theorem wo_less {S P : List Int} {x : Int} (hx : x ∈ P) (sub : P.Sublist S) : (wo S P).length < S.length := by
  have h1 : (wo S P).Sublist S := List.filter_sublist
  refine Nat.lt_of_le_of_ne h1.length_le fun e => ?_
  have := h1.eq_of_length e
  have : x ∈ wo S P := by rw [this]; exact sub.subset hx
  exact (wo_mem.mp this).2 hx
/-- hues that are told: below k, tied places unlike, each used -/
structure HuesOk (ts : List (Int × Int)) (dn : Int → Prop) (hs : List Int) (k : Nat) : Prop where
  lt : ∀ p, dn p → 0 ≤ atZ hs p ∧ atZ hs p < (k : Int)
  ne : ∀ a b, dn a → dn b → a ≠ b → Tb ts a b = true → atZ hs a ≠ atZ hs b
  all : ∀ h : Nat, h < k → ∃ p, dn p ∧ atZ hs p = (h : Int)
def setAll (h : Int) : List Int → List Int → List Int
  | hs, [] => hs
  | hs, p :: l => setAll h (hs.set p.toNat h) l
theorem setAll_snoc {h : Int} {p : Int} : ∀ {l hs : List Int}, setAll h hs (l ++ [p]) = (setAll h hs l).set p.toNat h
  | [], _ => rfl
  | _ :: l, _ => setAll_snoc (l := l)
theorem setAll_len {h : Int} : ∀ {l hs : List Int}, (setAll h hs l).length = hs.length
  | [], _ => rfl
  | _ :: l, hs => by
    show (setAll h _ l).length = _
    rw [setAll_len, List.length_set]
theorem setAll_at {h : Int} {q : Int} (q0 : 0 ≤ q) : ∀ {l hs : List Int}, (∀ p ∈ l, 0 ≤ p ∧ p < hs.length) → atZ (setAll h hs l) q = if q ∈ l then h else atZ hs q
  | [], hs, _ => by rw [if_neg (by simp)]; rfl
  | p :: l, hs, hl => by
    have hp := hl p List.mem_cons_self
    show atZ (setAll h (hs.set p.toNat h) l) q = _
    rw [setAll_at q0 fun z hz => by rw [List.length_set]; exact hl z (List.mem_cons_of_mem _ hz)]
    by_cases hq : q ∈ l
    · rw [if_pos hq, if_pos (List.mem_cons_of_mem _ hq)]
    · rw [if_neg hq]
      unfold atZ
      by_cases e : q = p
      · subst e
        rw [if_pos List.mem_cons_self, List.getD_eq_getElem?_getD, List.getElem?_set_self (by omega)]
        rfl
      · rw [if_neg (by simp [e, hq]), List.getD_eq_getElem?_getD, List.getD_eq_getElem?_getD, List.getElem?_set_ne (by omega)]
theorem HuesOk.step {n : Int} {ts : List (Int × Int)} {left P hs : List Int} {c : Nat} {x : Int} (sl : Set' n left) (sub : P.Sublist left) (ap : ApS ts P) (hx : x ∈ P) (hl : hs.length = n.toNat) (ok : HuesOk ts (fun p => 0 ≤ p ∧ p < n ∧ p ∉ left) hs c) : HuesOk ts (fun p => 0 ≤ p ∧ p < n ∧ p ∉ wo left P) (setAll (c : Int) hs P) (c + 1) := by
  have hat : ∀ q, 0 ≤ q → atZ (setAll (c : Int) hs P) q = if q ∈ P then (c : Int) else atZ hs q := fun q q0 => setAll_at q0 fun p hp => by
    have := sl.lt p (sub.subset hp)
    omega
  have out : ∀ p, p ∉ wo left P → p ∉ P → p ∉ left := fun p h1 h2 h3 => h1 (wo_mem.mpr ⟨h3, h2⟩)
  refine ⟨fun p hp => ?_, fun a b ha hb hab ht => ?_, fun h hh => ?_⟩
  · rw [hat p hp.1]
    by_cases h : p ∈ P
    · rw [if_pos h]; omega
    · rw [if_neg h]
      have := ok.lt p ⟨hp.1, hp.2.1, out p hp.2.2 h⟩
      omega
  · rw [hat a ha.1, hat b hb.1]
    by_cases pa : a ∈ P
    · by_cases pb : b ∈ P
      · rw [apt_pair ap pa pb hab] at ht; cases ht
      · rw [if_pos pa, if_neg pb]
        have := ok.lt b ⟨hb.1, hb.2.1, out b hb.2.2 pb⟩
        omega
    · rw [if_neg pa]
      have la := ok.lt a ⟨ha.1, ha.2.1, out a ha.2.2 pa⟩
      by_cases pb : b ∈ P
      · rw [if_pos pb]; omega
      · rw [if_neg pb]
        exact ok.ne a b ⟨ha.1, ha.2.1, out a ha.2.2 pa⟩ ⟨hb.1, hb.2.1, out b hb.2.2 pb⟩ hab ht
  · by_cases e : h = c
    · subst e
      have lx := sl.lt x (sub.subset hx)
      refine ⟨x, ⟨lx.1, lx.2, fun q => (wo_mem.mp q).2 hx⟩, ?_⟩
      rw [hat x lx.1, if_pos hx]
    · obtain ⟨p, hp, e2⟩ := ok.all h (by omega)
      refine ⟨p, ⟨hp.1, hp.2.1, fun q => hp.2.2 (wo_mem.mp q).1⟩, ?_⟩
      rw [hat p hp.1, if_neg fun q => hp.2.2 (sub.subset q)]
      exact e2
section
variable {n : Int} {ts : List (Int × Int)} {S P : List Int} {X : XF} {Q : R → Hs.S → Prop}
theorem floors_in_ok (g : Good n ts) (h : ∀ fin, Q (.own (.dc (dcI (flo ts (sb n.toNat))))) fin) : m_floors_in [.d (webD n ts)] X Q := by
  have n0 := g.n0
  have n10 := g.n10
  have en : ((n.toNat : Nat) : Int) = n := by omega
  unfold m_floors_in b_floors_in
  refine st_sem rfl ?_
  array_get_dec
  refine all_sets_ok n0 n10 fun fin => ?_
  array_get_dec
  refine loop_list tupI (fun l s => ∃ pre, ∃ w : SV, sb n.toNat = pre ++ l ∧ w = .dc (dcI (flo ts pre)) ∧ s = [.d (webD n ts), w, .no, .no]) (fun s hI => ?_) (fun T l s k hI hk => ?_) _ _ ⟨[], _, rfl, rfl, rfl⟩
  · obtain ⟨pre, w, e, rfl, rfl⟩ := hI
    rw [List.append_nil] at e
    array_get_dec
    rw [e] at h
    exact h _
  · obtain ⟨pre, w, e, rfl, rfl⟩ := hI
    have hT : T ∈ sb n.toNat := by rw [e]; simp
    have sT : Set' n T := by have := sb_iff.mp hT; rw [en] at this; exact this
    have few := sT.few n10
    have pl : (flo ts pre).length < 100000 := by
      have a := sb_len n.toNat
      rw [e, List.length_append, List.length_cons] at a
      have s2 : 2 ^ n.toNat ≤ 2 ^ 10 := Nat.pow_le_pow_right (by decide) (by omega)
      have s3 : (2 : Nat) ^ 10 = 1024 := by decide
      unfold flo
      rw [List.length_map]
      omega
    have np : T ∉ pre := fun hp => by
      have := sb_nodup n.toNat
      rw [e] at this
      exact (List.nodup_append.mp this).2.2 T hp T (by simp) rfl
    have fin2 : ∃ pre', ∃ w : SV, sb n.toNat = pre' ++ l ∧ w = .dc (dcI (flo ts pre')) ∧ [SV.d (webD n ts), .dc (dcI (flo ts (pre ++ [T]))), .no, .no] = [SV.d (webD n ts), w, .no, .no] := ⟨pre ++ [T], _, by rw [e, List.append_assoc]; rfl, rfl, rfl⟩
    array_get_dec
    rw [show tupI T = PyData.tuple (T.map .int) from rfl]
    refine st_eq_tt (ms := []) ?_
    array_get_dec
    refine st_ite (fun c => ?_) (fun c => ?_)
    · have c : T = [] := of_decide_eq_true c
      subst c
      array_get_dec
      refine dcI_put (kvs := flo ts pre) (k := []) (x := 0) pl ?_
      rw [show (0 : Int) = (chi ts [] : Int) by rw [chi_nil]; rfl, flo_put np]
      array_get_dec
      exact hk _ fin2
    · have c : T ≠ [] := of_decide_eq_false c
      have fl : (fp ts T).length ≤ 1024 := by
        have q : (fp ts T).length ≤ 2 ^ (T.drop 1).length := by
          unfold fp
          rw [fp_fold]
          have := aps_len (ts := ts) (T.drop 1) [T.take 1]
          rw [List.length_singleton, Nat.one_mul] at this
          exact this
        have s2 : 2 ^ (T.drop 1).length ≤ 2 ^ 10 := Nat.pow_le_pow_right (by decide) (by rw [List.length_drop]; omega)
        have s3 : (2 : Nat) ^ 10 = 1024 := by decide
        omega
      array_get_dec
      refine first_parts_ok few fun fin => ?_
      array_get_dec
      refine ⟨by rw [List.length_map]; show _ ≤ 16777216; omega, ?_⟩
      array_get_dec
      refine comp_list tupI (fun P => .int (chi ts (wo T P) : Int)) _ (fun P hP kT hkT => ?_) ?_
      · obtain ⟨sub, ap, x, hx⟩ := fp_sub c hP
        have hw : wo T P ∈ pre := sb_before e (by rw [sb_iff, en]; exact wo_set sT) (fun z hz => (wo_mem.mp hz).1) fun e2 => by
          have := wo_less hx sub
          rw [e2] at this
          omega
        array_get_dec
        rw [show tupI P = PyData.tuple (P.map .int) from rfl]
        array_get_dec
        refine without_ok (by omega) fun fin => ?_
        array_get_dec
        refine dcI_ix (kvs := flo ts pre) (k := wo T P) (flo_lk hw) ?_
        array_get_dec
        exact hkT
      · array_get_dec
        obtain ⟨x, r, rfl⟩ := List.exists_cons_of_ne_nil c
        refine st_minI (fun e2 => ?_) fun m h1 h2 => ?_
        · obtain ⟨P, hP, _⟩ := chi_best (ts := ts) sT.up
          rw [e2] at hP
          cases hP
        · array_get_dec
          rw [chi_min sT.up h1 h2]
          refine dcI_put (kvs := flo ts pre) (k := x :: r) (x := (chi ts (x :: r) : Int)) pl ?_
          rw [flo_put np]
          array_get_dec
          exact hk _ fin2
theorem hues_by_ok (g : Good n ts) (h : ∀ hs fin, hs.length = n.toNat → HuesOk ts (fun p => 0 ≤ p ∧ p < n) hs (chi ts (rangeI n.toNat)) → Q (.d (.tuple (hs.map .int))) fin) : m_hues_by [.d (webD n ts), .d (.dict (dcI (flo ts (sb n.toNat))))] X Q := by
  have n0 := g.n0
  have n10 := g.n10
  have en : ((n.toNat : Nat) : Int) = n := by omega
  have lk : ∀ {S}, Set' n S → lkT (flo ts (sb n.toNat)) S = some (chi ts S : Int) := fun {S} hs => flo_lk (by rw [sb_iff, en]; exact hs)
  unfold m_hues_by b_hues_by
  refine st_sem rfl ?_
  array_get_dec
  refine ⟨⟨by omega, by omega⟩, ?_⟩
  array_get_dec
  rw [rangeD_map]
  refine ⟨by rw [List.length_map, rangeI_len]; show _ ≤ 16777216; omega, ?_⟩
  array_get_dec
  refine comp_list PyData.int (fun _ => .int 0) _ (fun z hz kT hkT => ?_) ?_
  · array_get_dec
    exact hkT
  array_get_dec
  refine ⟨⟨by omega, by omega⟩, ?_⟩
  array_get_dec
  rw [rangeD_map]
  refine loop_while (fun m s => ∃ (left hs : List Int) (c : Nat), Set' n left ∧ left.length = m ∧ hs.length = n.toNat ∧ c + chi ts left = chi ts (rangeI n.toNat) ∧ HuesOk ts (fun p => 0 ≤ p ∧ p < n ∧ p ∉ left) hs c ∧ s = [.d (webD n ts), .d (.dict (dcI (flo ts (sb n.toNat)))), .l (hs.map .int), .no, .d (.tuple (left.map .int)), .d (.int c), .no, .no]) ?_ n.toNat ⟨rangeI n.toNat, (rangeI n.toNat).map fun _ => 0, 0, range_set n0, rangeI_len, by rw [List.length_map, rangeI_len], by omega, ⟨fun p hp => (hp.2.2 (rangeI_mem.mpr (by omega))).elim, fun a b ha _ _ _ => (ha.2.2 (rangeI_mem.mpr (by omega))).elim, fun h hh => by omega⟩, by rw [List.map_map]; rfl⟩
  rintro m s k ⟨left, hs, c, sl, rfl, hl, hc, ok, rfl⟩ hk
  have few := sl.few n10
  array_get_dec
  refine st_ne_tt (ms := []) ?_
  array_get_dec
  refine st_ite (fun q => ?_) (fun q => ?_)
  · have q : left ≠ [] := by simpa using q
    have fl : (fp ts left).length ≤ 1024 := by
      have q : (fp ts left).length ≤ 2 ^ (left.drop 1).length := by
        unfold fp
        rw [fp_fold]
        have := aps_len (ts := ts) (left.drop 1) [left.take 1]
        rw [List.length_singleton, Nat.one_mul] at this
        exact this
      have s2 : 2 ^ (left.drop 1).length ≤ 2 ^ 10 := Nat.pow_le_pow_right (by decide) (by rw [List.length_drop]; omega)
      have s3 : (2 : Nat) ^ 10 = 1024 := by decide
      omega
    array_get_dec
    refine first_parts_ok few fun fin => ?_
    array_get_dec
    refine ⟨by rw [List.length_map]; show _ ≤ 16777216; omega, ?_⟩
    array_get_dec
    refine comp_filter tupI tupI (fun P => decide ((chi ts (wo left P) : Int) = (chi ts left : Int) - 1)) _ (fun P hP kT kF hT hF => ?_) ?_
    · array_get_dec
      rw [show tupI P = PyData.tuple (P.map .int) from rfl]
      array_get_dec
      refine without_ok (by omega) fun fin => ?_
      array_get_dec
      refine dcI_ix (kvs := flo ts (sb n.toNat)) (k := wo left P) (lk (wo_set sl)) ?_
      array_get_dec
      refine dcI_ix (kvs := flo ts (sb n.toNat)) (k := left) (lk sl) ?_
      array_get_dec
      refine st_ite (fun c => ?_) (fun c => ?_)
      · array_get_dec
        exact hT c
      · exact hF c
    · have hne : ∃ P rest, (fp ts left).filter (fun P => decide ((chi ts (wo left P) : Int) = (chi ts left : Int) - 1)) = P :: rest := by
        obtain ⟨x, r, rfl⟩ := List.exists_cons_of_ne_nil q
        obtain ⟨P, hP, e⟩ := chi_best (ts := ts) sl.up
        refine List.exists_cons_of_ne_nil fun e2 => ?_
        have := List.filter_eq_nil_iff.mp e2 P hP
        exact this (decide_eq_true (by omega))
      obtain ⟨P, rest, hf⟩ := hne
      have hP : P ∈ (fp ts left).filter (fun P => decide ((chi ts (wo left P) : Int) = (chi ts left : Int) - 1)) := by rw [hf]; exact List.mem_cons_self
      obtain ⟨hP, hv⟩ := List.mem_filter.mp hP
      have hv := of_decide_eq_true hv
      obtain ⟨sub, ap, x, hx⟩ := fp_sub q hP
      have ok2 := ok.step sl sub ap hx hl
      rw [hf, show (P :: rest).map tupI = PyData.tuple (P.map .int) :: rest.map tupI from rfl]
      have hix : L2.atI (PyData.tuple (P.map .int) :: rest.map tupI) 0 = some (.tuple (P.map .int)) := L2.atI_nat rfl
      array_get_dec
      refine st_ix_l hix ?_
      array_get_dec
      refine loop_list PyData.int (fun l s => ∃ dn, P = dn ++ l ∧ s = [.d (webD n ts), .d (.dict (dcI (flo ts (sb n.toNat)))), .l ((setAll (c : Int) hs dn).map .int), .no, .d (.tuple (left.map .int)), .d (.int c), .l (PyData.tuple (P.map .int) :: rest.map tupI), .no]) (fun s hI => ?_) (fun p l s k3 hI hk3 => ?_) P _ ⟨[], rfl, rfl⟩
      · obtain ⟨dn, e, rfl⟩ := hI
        rw [List.append_nil] at e
        subst e
        array_get_dec
        refine st_ix_l hix ?_
        array_get_dec
        refine without_ok (by omega) fun fin => ?_
        array_get_dec
        exact hk _ _ (wo_less hx sub) ⟨wo left P, setAll (c : Int) hs P, c + 1, wo_set sl, rfl, by rw [setAll_len]; exact hl, by omega, ok2, rfl⟩
      · obtain ⟨dn, e, rfl⟩ := hI
        have lp := sl.lt p (sub.subset (by rw [e]; simp))
        array_get_dec
        refine ⟨lp.1, by rw [List.length_map, setAll_len]; omega, ?_⟩
        array_get_dec
        refine hk3 _ ⟨dn ++ [p], by rw [e, List.append_assoc]; rfl, ?_⟩
        rw [setAll_snoc, List.map_set]
        rfl
  · have q : left = [] := by simpa using q
    subst q
    rw [chi_nil, Nat.add_zero] at hc
    subst hc
    array_get_dec
    exact h hs _ hl ⟨fun p hp => ok.lt p ⟨hp.1, hp.2, by simp⟩, fun a b ha hb => ok.ne a b ⟨ha.1, ha.2, by simp⟩ ⟨hb.1, hb.2, by simp⟩, fun h hh => by
      obtain ⟨p, hp, e⟩ := ok.all h hh
      exact ⟨p, ⟨hp.1, hp.2.1⟩, e⟩⟩
theorem fewest_in_ok (g : Good n ts) (h : ∀ hs fin, hs.length = n.toNat → HuesOk ts (fun p => 0 ≤ p ∧ p < n) hs (chi ts (rangeI n.toNat)) → Q (.own (.tp [.d (.int (chi ts (rangeI n.toNat))), .d (.tuple (hs.map .int)), .dc (dcI (flo ts (sb n.toNat)))])) fin) : m_fewest_in [.d (webD n ts)] X Q := by
  have n0 := g.n0
  have n10 := g.n10
  have en : ((n.toNat : Nat) : Int) = n := by omega
  unfold m_fewest_in b_fewest_in
  refine st_sem rfl ?_
  array_get_dec
  refine floors_in_ok g fun fin => ?_
  array_get_dec
  refine ⟨⟨by omega, by omega⟩, ?_⟩
  array_get_dec
  rw [rangeD_map]
  refine dcI_ix (kvs := flo ts (sb n.toNat)) (k := rangeI n.toNat) (flo_lk (by rw [sb_iff, en]; exact range_set n0)) ?_
  array_get_dec
  refine hues_by_ok g fun hs fin hl ok => ?_
  array_get_dec
  refine st_flat_d (flatL_map (fun _ => rfl) hs) ?_
  array_get_dec
  exact h hs _ hl ok
theorem fewest_ok (g : Good n ts) (h : ∀ hs fin, hs.length = n.toNat → HuesOk ts (fun p => 0 ≤ p ∧ p < n) hs (chi ts (rangeI n.toNat)) → Q (.own (.tp [.d (.int (chi ts (rangeI n.toNat))), .d (.tuple (hs.map .int)), .dc (dcI (flo ts (sb n.toNat)))])) fin) : m_fewest [.d (webD n ts)] X Q := by
  unfold m_fewest b_fewest
  refine st_sem rfl ?_
  array_get_dec
  refine need_web_ok g fun fin => ?_
  array_get_dec
  refine fewest_in_ok g fun hs fin hl ok => ?_
  array_get_dec
  exact h hs _ hl ok
end
section
variable {n : Int} {ts : List (Int × Int)} {X : XF} {Q : R → S → Prop}
theorem are_hues_ok {hs : List Int} (g : Good n ts) (hl : hs.length = n.toNat) (nn : ∀ z ∈ hs, 0 ≤ z) (ne : ∀ p ∈ ts, atZ hs p.1 ≠ atZ hs p.2) (h : ∀ fin, Q (.d (.bool true)) fin) : m_are_hues [.d (webD n ts), .d (.tuple (hs.map .int))] X Q := by
  have n0 := g.n0
  have n10 := g.n10
  have tf := g.few
  unfold m_are_hues b_are_hues
  refine st_sem rfl ?_
  array_get_dec
  refine need_web_ok g fun fin => ?_
  array_get_dec
  rw [List.length_map, hl]
  refine st_iteF (by rw [decide_eq_true (show ((n.toNat : Nat) : Int) = n by omega)]; rfl) ?_
  array_get_dec
  refine ⟨by rw [List.length_map]; show _ ≤ 16777216; omega, ?_⟩
  array_get_dec
  refine comp_list PyData.int (fun _ => .bool true) _ (fun z hz kT hkT => ?_) ?_
  · have := nn z hz
    array_get_dec
    rw [decide_eq_true (show z ≥ 0 from this)]
    exact hkT
  array_get_dec
  refine st_all_map ?_
  rw [show (hs.all fun _ => true) = true by simp]
  array_get_dec
  refine ⟨by rw [List.length_map]; show _ ≤ 16777216; omega, ?_⟩
  array_get_dec
  refine comp_list pairD (fun _ => .bool true) _ (fun p hp kT hkT => ?_) ?_
  · have t := g.ties p hp
    have e := ne p hp
    array_get_dec
    refine st_ix_t (atZ_ok (by omega) (by omega)) ?_
    array_get_dec
    refine st_ix_t (atZ_ok (by omega) (by omega)) ?_
    array_get_dec
    rw [decide_eq_false e]
    exact hkT
  · array_get_dec
    refine st_all_map ?_
    rw [show (ts.all fun _ => true) = true by simp]
    array_get_dec
    exact h _
end
theorem awhole_ok {z : Int} {X : XF} {Q : R → S → Prop} (h : ∀ fin, Q (.d (.bool true)) fin) : m__law_awhole [.d (.int z)] X Q := by
  unfold m__law_awhole b__law_awhole
  refine st_sem rfl ?_
  array_get_dec
  exact h _
theorem all_true_lay {α : Type} : ∀ l : List α, PyData.canLayAll0 (l.map fun _ => PyData.bool true) = true ∧ PyData.depthAll (l.map fun _ => PyData.bool true) ≤ 1
  | [] => ⟨rfl, by show (0 : Nat) ≤ 1; decide⟩
  | a :: l => by
    obtain ⟨h1, h2⟩ := all_true_lay l
    refine ⟨?_, ?_⟩
    · show ((PyData.bool true).canLay0 && PyData.canLayAll0 (l.map fun _ => PyData.bool true)) = true
      rw [h1]; rfl
    · show max ((PyData.bool true).depth) (PyData.depthAll (l.map fun _ => PyData.bool true)) ≤ 1
      have : (PyData.bool true).depth ≤ 1 := by simp [PyData.depth]
      omega
theorem st_in_ff {α : Type} {l : List α} {k : R → Prop} (h : k (.d (.bool false))) : cIn (.bool false) (.list (l.map fun _ => .bool true)) k := by
  obtain ⟨h1, h2⟩ := all_true_lay l
  refine st_in_l rfl ?_ ?_
  · unfold SeqAt.shaped
    rw [show (PyData.list (l.map fun _ => PyData.bool true)).canLay0 = PyData.canLayAll0 (l.map fun _ => PyData.bool true) from by simp [PyData.canLay0], h1]
    simp [PyData.depth]
    omega
  · have : ((l.map fun _ => PyData.bool true).any fun z => PyData.eqv z (.bool false)) = false := by
      rw [List.any_eq_false]
      intro x hx
      obtain ⟨_, _, rfl⟩ := List.mem_map.mp hx
      simp [PyData.eqv]
    rw [this]
    exact h
theorem st_sortedSetT {ns : List Int} {k : R → Prop} (hl : ns.length < 64) (h : ∀ ms : List Int, ms.Pairwise (· < ·) → (∀ z, z ∈ ms ↔ z ∈ ns) → k (.own (.l (ms.map .int)))) : bSortedSet [.tuple (ns.map .int)] k := by
  unfold bSortedSet
  dsimp only
  rw [intsOf_map']
  exact ⟨hl, h⟩
end Lk22
namespace Lk22
open PySem Hs
local macro_rules
  | `(tactic| sizeOf_list_dec) => `(tactic| first
    | with_reducible refine st_seq ?_ | with_reducible refine st_asg ?_ | with_reducible refine st_cons ?_ | with_reducible refine st_nil ?_ | with_reducible refine st_C ?_ | with_reducible refine st_op ?_
    | with_reducible refine st_var_d ?_ | with_reducible refine st_var_l ?_ | with_reducible refine st_var_ll ?_ | with_reducible refine st_var_dc ?_
    | with_reducible refine st_look_d ?_ | with_reducible refine st_look_top ?_ | with_reducible refine st_look_top_d ?_ | with_reducible refine st_look_own ?_ | with_reducible refine st_look_top_dc ?_ | with_reducible refine st_look_own_dc ?_ | with_reducible refine st_put_d ?_ | with_reducible refine st_put_own ?_ | with_reducible refine st_put_top_l ?_ | with_reducible refine st_put_top_ll ?_ | with_reducible refine st_put_top_dc ?_
    | ((with_reducible refine st_callF ?_ ?_); eq_refl) | with_reducible refine st_call ?_ | with_reducible refine st_putK_nil ?_ | with_reducible refine st_putK_t ?_ | with_reducible refine st_putK_f ?_ | with_reducible refine st_putK_td ?_ | with_reducible refine st_putK_to ?_ | with_reducible refine st_bind_nil ?_ | with_reducible refine st_bind_f ?_ | with_reducible refine st_bind_tt ?_ | with_reducible refine st_bind_td ?_ | with_reducible refine st_bind_to ?_
    | with_reducible refine st_frz_d ?_ | with_reducible refine st_frz_own ?_ | with_reducible refine st_frz_top ?_ | with_reducible refine st_frz_own_ll ?_ | with_reducible refine st_frz_own_dc ?_ | with_reducible refine st_frz_top_ll ?_ | with_reducible refine st_frz_top_dc ?_ | with_reducible refine st_frzAll_nil ?_ | with_reducible refine st_frzAll_cons ?_
    | with_reducible refine st_if ?_ | with_reducible refine st_B ?_ | with_reducible refine st_and ?_ | with_reducible refine st_or ?_ | with_reducible refine st_not ?_ | with_reducible refine st_yes ?_ | with_reducible refine st_isB ?_ | with_reducible refine st_t ?_ | with_reducible refine st_f ?_ | ((with_reducible refine st_iteT ?_ ?_); decide) | ((with_reducible refine st_iteF ?_ ?_); decide)
    | with_reducible refine st_nt ?_ | with_reducible refine st_nf ?_
    | with_reducible refine st_ret ?_ | with_reducible refine st_next ?_ | with_reducible refine st_retN ?_ | with_reducible refine st_drop ?_ | with_reducible refine st_break ?_ | with_reducible refine st_raise ?_
    | with_reducible refine st_out_d ?_ | with_reducible refine st_out_own ?_ | with_reducible refine st_out_top ?_
    | with_reducible refine st_tup ?_ | with_reducible refine st_lst ?_ | with_reducible refine st_un ?_ | with_reducible refine st_blt ?_ | with_reducible refine st_lookAll_nil ?_ | with_reducible refine st_lookAll_cons ?_
    | with_reducible refine st_unp ?_ | with_reducible refine st_par ?_ | with_reducible refine st_setIx ?_ | with_reducible refine st_onL ?_ | with_reducible refine st_for ?_ | with_reducible refine st_wipe_nil ?_ | with_reducible refine st_wipe_cons ?_ | with_reducible refine st_andV ?_ | with_reducible refine st_orV ?_ | with_reducible refine st_notV ?_ | with_reducible refine st_ifE ?_ | with_reducible refine st_chain ?_
    | with_reducible refine st_sl ?_ | with_reducible refine st_noPart ?_ | with_reducible refine st_part ?_ | with_reducible refine st_lc ?_ | with_reducible refine st_lm ?_
    | with_reducible refine st_seqI ?_ | with_reducible refine st_range1 ?_ | with_reducible refine st_range2 ?_ | with_reducible refine st_enum ?_ | with_reducible refine st_zip ?_
    | with_reducible refine st_nm ?_ | with_reducible refine st_tp ?_ | with_reducible refine st_tps_nil ?_ | with_reducible refine st_tps_cons ?_
    | ((with_reducible refine st_mod_i ?_ ?_); (first | decide | omega)) | ((with_reducible refine st_fdiv_i ?_ ?_); decide) 
    | with_reducible refine st_add_i ?_ | with_reducible refine st_sub_i ?_ | with_reducible refine st_neg_i ?_ | with_reducible refine st_eq_i ?_ | with_reducible refine st_ne_i ?_ | with_reducible refine st_eq_str ?_ | with_reducible refine st_ne_str ?_ | with_reducible refine st_eq_b ?_ | with_reducible refine st_ne_b ?_ | with_reducible refine st_lt_i ?_ | with_reducible refine st_le_i ?_ | with_reducible refine st_gt_i ?_ | with_reducible refine st_ge_i ?_
    | with_reducible refine st_is_n ?_ | with_reducible refine st_isNot_n ?_ | with_reducible refine st_is_b ?_ | with_reducible refine st_isNot_b ?_ | ((with_reducible refine st_ix_l (x := ?_) ?_ ?_); rotate_left; eq_refl) | ((with_reducible refine st_ix_t (x := ?_) ?_ ?_); rotate_left; eq_refl) | with_reducible refine st_len_l ?_ | with_reducible refine st_len_t ?_ | with_reducible refine st_len_lit ?_
    | with_reducible refine st_abs ?_ | with_reducible refine st_max2 ?_ | with_reducible refine st_min2 ?_ | with_reducible refine st_int_i ?_ | with_reducible refine st_int_b ?_ | with_reducible refine st_tuple_l ?_ | with_reducible refine st_tuple_t ?_ | with_reducible refine st_list_l ?_ | with_reducible refine st_list_t ?_ | ((with_reducible refine st_isT ?_ ?_); eq_refl) | ((with_reducible refine st_isTT ?_ ?_); eq_refl) | ((with_reducible refine st_isTF ?_ ?_); eq_refl) | ((with_reducible refine st_isNT ?_ ?_); eq_refl) | ((with_reducible refine st_isNF ?_ ?_); eq_refl)
    | with_reducible refine st_rg1 ?_ | with_reducible refine st_rg2 ?_ | with_reducible refine st_enumL ?_ | with_reducible refine st_zipS ?_ | with_reducible refine st_rev_l ?_ | with_reducible refine st_rev_t ?_
    | with_reducible refine st_ne_ll ?_ | with_reducible refine st_ne_lit ?_ | with_reducible refine st_in_pt ?_ | with_reducible refine st_in_pl ?_
    | with_reducible refine st_sl_l ?_ | with_reducible refine st_sl_t ?_
    | ((with_reducible refine st_iteLen ?_ ?_); eq_refl) | ((with_reducible refine st_iteNLen ?_ ?_); eq_refl) | with_reducible refine st_iteBB ?_ | ((with_reducible refine st_iteND ?_ ?_); omega) | ((with_reducible refine st_iteNF ?_ ?_); omega)
    | ((with_reducible refine st_iteT (decide_eq_true ?_) ?_); omega) | ((with_reducible refine st_iteF (decide_eq_false ?_) ?_); omega))
local macro_rules
  | `(tactic| array_get_dec) => `(tactic| repeat sizeOf_list_dec)
local macro_rules
  | `(tactic| sizeOf_list_dec) => `(tactic| first | with_reducible refine st_ix2_l ?_ | with_reducible refine st_ix2_t ?_ | with_reducible refine st_ix2_s ?_ | with_reducible refine st_ix2_lit ?_ | with_reducible refine st_inK_l ?_ | with_reducible refine st_inK_t ?_ | with_reducible refine st_ninK_l ?_ | with_reducible refine st_ninK_t ?_ | with_reducible refine st_setD ?_ | with_reducible refine st_onDc ?_ | with_reducible refine st_dget2 ?_ | with_reducible refine st_emT ?_ | with_reducible refine st_emD ?_ | with_reducible refine st_disp1 ?_ | with_reducible refine st_disp1k ?_ | with_reducible refine st_range3 ?_ | with_reducible refine st_bor ?_ | with_reducible refine st_borT ?_ | with_reducible refine st_bindT_nil ?_ | with_reducible refine st_bindT_d ?_ | with_reducible refine st_bindT_o ?_ | with_reducible refine st_bindT_t ?_ | with_reducible refine st_toPs_nil ?_ | with_reducible refine st_toPs_d ?_ | with_reducible refine st_toPs_l ?_ | with_reducible refine st_toPs_dc ?_ | with_reducible refine st_tupO ?_ | with_reducible refine st_var_tp ?_ | with_reducible refine st_frz_own_tp ?_ | with_reducible refine st_frz_top_tp ?_ | with_reducible refine st_lmP ?_ | ((with_reducible refine st_onP ?_ ?_); eq_refl) | with_reducible refine st_flat_b ?_ | with_reducible refine st_flat_i ?_)
local macro_rules
  | `(tactic| sizeOf_list_dec) => `(tactic| first | with_reducible refine st_unpO ?_ | with_reducible refine st_unpK ?_ | with_reducible refine st_gO_d ?_ | with_reducible refine st_gO_l ?_ | with_reducible refine st_gO_dc ?_ | with_reducible refine st_gO_nil ?_)
local macro_rules
  | `(tactic| sizeOf_list_dec) => `(tactic| with_reducible refine is_whole_ok fun _ => ?_)
local macro_rules
  | `(tactic| sizeOf_list_dec) => `(tactic| first | with_reducible refine st_in_il ?_ | with_reducible refine st_in_it ?_ | with_reducible refine st_notIn_il ?_ | with_reducible refine st_notIn_it ?_ | with_reducible refine st_ne_ll ?_)
theorem lt_eq : ∀ {ps qs : List Int}, ps.Pairwise (· < ·) → qs.Pairwise (· < ·) → (∀ p, p ∈ ps ↔ p ∈ qs) → ps = qs
  | [], [], _, _, _ => rfl
  | [], q :: qs, _, _, h => nomatch (h q).mpr List.mem_cons_self
  | p :: ps, [], _, _, h => nomatch (h p).mp List.mem_cons_self
  | p :: ps, q :: qs, h1, h2, h => by
    obtain ⟨a1, a2⟩ := List.pairwise_cons.mp h1
    obtain ⟨b1, b2⟩ := List.pairwise_cons.mp h2
    have e : p = q := by
      rcases List.mem_cons.mp ((h p).mp List.mem_cons_self) with e | hp
      · exact e
      · rcases List.mem_cons.mp ((h q).mpr List.mem_cons_self) with e | hq
        · exact e.symm
        · have c1 := b1 p hp
          have c2 := a1 q hq
          omega
    subst e
    rw [lt_eq a2 b2 fun r => ?_]
    constructor
    · intro hr
      rcases List.mem_cons.mp ((h r).mp (List.mem_cons_of_mem _ hr)) with e | hr2
      · subst e
        have := a1 r hr; omega
      · exact hr2
    · intro hr
      rcases List.mem_cons.mp ((h r).mpr (List.mem_cons_of_mem _ hr)) with e | hr2
      · subst e
        have := b1 r hr; omega
      · exact hr2
theorem fp_len {ts : List (Int × Int)} {S : List Int} (hl : S.length ≤ 10) : (fp ts S).length ≤ 1024 := by
  unfold fp
  rw [fp_fold]
  have fl := aps_len (ts := ts) (S.drop 1) [S.take 1]
  rw [List.length_singleton, Nat.one_mul] at fl
  have f2 : 2 ^ (S.drop 1).length ≤ 2 ^ 10 := Nat.pow_le_pow_right (by decide) (by rw [List.length_drop]; omega)
  have f3 : (2 : Nat) ^ 10 = 1024 := by decide
  omega
theorem dcI_nin {kvs : List (List Int × Int)} {k : List Int} {P : R → Prop} (q : P (.d (.bool (!(lkT kvs k).isSome)))) : cNotInK (tupI k) (.dict (dcI kvs)) P := .inr ⟨_, rfl, dcT_get (by rw [lkT_map PyData.int, Option.isSome_map]; exact q)⟩
theorem flo_isSome {ts : List (Int × Int)} {S : List Int} {L : List (List Int)} (h : S ∈ L) : (lkT (flo ts L) S).isSome = true := by rw [flo_lk h]; rfl
theorem sb_last : ∀ n : Nat, ∃ pre, sb n = pre ++ [rangeI n]
  | 0 => ⟨[], rfl⟩
  | n + 1 => by
    obtain ⟨pre, e⟩ := sb_last n
    refine ⟨sb n ++ pre.map (· ++ [(n : Int)]), ?_⟩
    show sb n ++ (sb n).map (· ++ [(n : Int)]) = _
    have : rangeI (n + 1) = rangeI n ++ [(n : Int)] := by
      unfold rangeI
      rw [List.range_succ, List.map_append]
      rfl
    have e2 : (sb n).map (· ++ [(n : Int)]) = pre.map (· ++ [(n : Int)]) ++ [rangeI n ++ [(n : Int)]] := by rw [e, List.map_append]; rfl
    rw [this, e2, List.append_assoc]
theorem sb_first (n : Nat) : ∃ r, sb n = [] :: r := by
  induction n with
  | zero => exact ⟨[], rfl⟩
  | succ n ih =>
    obtain ⟨r, e⟩ := ih
    exact ⟨r ++ (sb n).map (· ++ [(n : Int)]), by show sb n ++ _ = _; rw [e]; rfl⟩
theorem asets_eq : m__law_asets = m_all_sets := rfl
theorem sb_small {n : Int} (h10 : n ≤ 10) : (sb n.toNat).length ≤ 1024 := by
  rw [sb_len]
  exact Nat.le_trans (Nat.pow_le_pow_right (by decide) (show n.toNat ≤ 10 by omega)) (by decide)
/-- what the law calls parts -/
theorem aparts_ok {n : Int} {ts : List (Int × Int)} {S : List Int} (g : Good n ts) (hs : Set' n S) {X : XF} {Q : R → Hs.S → Prop} (h : ∀ fin, Q (.own (.l ((fp ts S).map tupI))) fin) : m__law_aparts_of [.d (webD n ts), .d (.tuple (S.map .int))] X Q := by
  have few := hs.few g.n10
  have up := hs.up
  unfold m__law_aparts_of b__law_aparts_of
  rw [show webD n ts = PyData.tuple [.int n, .tuple (ts.map pairD)] from rfl]
  refine st_sem rfl ?_
  array_get_dec
  rw [show (1 : Int) = ((1 : Nat) : Int) from rfl, cut_to, cut_from]
  refine loop_list PyData.int (fun l s => ∃ done, S.drop 1 = done ++ l ∧ (∀ T ∈ done.foldl (apsS ts) [S.take 1], T.Sublist (S.take 1 ++ done)) ∧ s = [.d (.tuple [.int n, .tuple (ts.map pairD)]), .d (.tuple (S.map .int)), .l ((done.foldl (apsS ts) [S.take 1]).map tupI), .no, .no, .no, .no]) (fun s hI => ?_) (fun p l s k hI hk => ?_) _ _ ⟨[], rfl, fun T hT => by
    rw [List.append_nil, List.mem_singleton.mp hT]
    exact List.Sublist.refl _, rfl⟩
  · obtain ⟨done, e, _, rfl⟩ := hI
    rw [List.append_nil] at e
    rw [← e, ← fp_fold]
    array_get_dec
    exact h _
  · obtain ⟨done, e, hsub, rfl⟩ := hI
    have dl : done.length + 1 + l.length = (S.drop 1).length := by rw [e, List.length_append, List.length_cons]; omega
    rw [List.length_drop] at dl
    have fl := aps_len (ts := ts) done [S.take 1]
    have f2 : 2 ^ done.length ≤ 2 ^ 10 := Nat.pow_le_pow_right (by decide) (by omega)
    have f3 : (2 : Nat) ^ 10 = 1024 := by decide
    rw [List.length_singleton, Nat.one_mul] at fl
    have lt : ∀ T ∈ done.foldl (apsS ts) [S.take 1], ∀ o ∈ T, o < p := fun T hT o ho => by
      have m := (hsub T hT).subset ho
      have eS : S = (S.take 1 ++ done) ++ p :: l := by rw [List.append_assoc, ← e, List.take_append_drop]
      rw [eS] at up
      exact (List.pairwise_append.mp up).2.2 o m p List.mem_cons_self
    have el : ∀ T ∈ done.foldl (apsS ts) [S.take 1], T.length ≤ 20 := fun T hT => by
      have := (hsub T hT).length_le
      rw [List.length_append, List.length_take] at this
      omega
    have nxt : k [.d (.tuple [.int n, .tuple (ts.map pairD)]), .d (.tuple (S.map .int)), .l (((done ++ [p]).foldl (apsS ts) [S.take 1]).map tupI), .no, .no, .no, .no] := hk _ ⟨done ++ [p], by rw [e]; simp, fun T hT => by
      rw [List.foldl_append, List.foldl_cons, List.foldl_nil] at hT
      unfold apsS at hT
      rcases List.mem_append.mp hT with hT | hT
      · exact (hsub T hT).trans (by rw [← List.append_assoc]; exact List.sublist_append_left _ _)
      · obtain ⟨U, hU, rfl⟩ := List.mem_map.mp hT
        rw [← List.append_assoc]
        exact (hsub U (List.mem_filter.mp hU).1).append (List.Sublist.refl _), rfl⟩
    rw [List.foldl_append, List.foldl_cons, List.foldl_nil] at nxt
    generalize done.foldl (apsS ts) [S.take 1] = F at *
    unfold apsS at nxt
    array_get_dec
    refine loop_list tupI (fun l s => ∃ dn, F = dn ++ l ∧ s = [.d (.tuple [.int n, .tuple (ts.map pairD)]), .d (.tuple (S.map .int)), .d (.list (F.map tupI)), .d (.int p), .l (((dn.filter fun P => !(P.any fun o => Tb ts o p)).map (· ++ [p])).map tupI), .no, .no]) (fun s hI => ?_) (fun T l2 s k2 hI hk2 => ?_) _ _ ⟨[], rfl, rfl⟩
    · obtain ⟨dn, e2, rfl⟩ := hI
      rw [List.append_nil] at e2
      subst e2
      array_get_dec
      have := List.length_filter_le (fun P : List Int => !(P.any fun o => Tb ts o p)) F
      refine st_add_l (by rw [List.length_map, List.length_map, List.length_map]; show _ ≤ 16777216; omega) ?_
      array_get_dec
      rw [← List.map_append]
      exact nxt
    · obtain ⟨dn, e2, rfl⟩ := hI
      have hT : T ∈ F := by rw [e2]; simp
      have ltT := lt T hT
      have elT := el T hT
      have dn1 : dn.length ≤ 1024 := by have := congrArg List.length e2; rw [List.length_append] at this; omega
      have dn2 := List.length_filter_le (fun P : List Int => !(P.any fun o => Tb ts o p)) dn
      have cond : (!(T.any fun o => Tb ts o p)) = decide ((T.filter fun o => decide ((o, p) ∈ ts)) = []) := by
        apply Bool.eq_iff_iff.mpr
        rw [Bool.not_eq_true', List.any_eq_false, decide_eq_true_eq, List.filter_eq_nil_iff]
        refine forall_congr' fun o => forall_congr' fun ho => ?_
        have := ltT o ho
        unfold Tb
        rw [show min o p = o by omega, show max o p = p by omega]
      have stp : ∀ b, (!(T.any fun o => Tb ts o p)) = b → k2 [.d (.tuple [.int n, .tuple (ts.map pairD)]), .d (.tuple (S.map .int)), .d (.list (F.map tupI)), .d (.int p), .l ((((dn.filter fun P => !(P.any fun o => Tb ts o p)) ++ if b = true then [T] else []).map (· ++ [p])).map tupI), .no, .no] := fun b hb => hk2 _ ⟨dn ++ [T], by rw [e2]; simp, by
        rw [List.filter_append, List.filter_cons, List.filter_nil, hb]⟩
      rw [cond] at stp
      rw [show tupI T = PyData.tuple (T.map .int) from rfl]
      array_get_dec
      refine ⟨by rw [List.length_map]; show _ ≤ 16777216; omega, ?_⟩
      array_get_dec
      refine comp_filter PyData.int PyData.int (fun o => decide ((o, p) ∈ ts)) _ (fun o ho kT kF hT hF => ?_) ?_
      · array_get_dec
        refine st_ite (fun c => ?_) (fun c => ?_)
        · array_get_dec
          exact hT c
        · exact hF c
      array_get_dec
      refine st_eq_ll (ms := []) ?_
      array_get_dec
      refine st_ite (fun c => ?_) (fun c => ?_)
      · array_get_dec
        refine st_add_t (by rw [List.length_map]; show _ + 1 ≤ 16777216; omega) ?_
        array_get_dec
        refine st_append (by rw [List.length_map, List.length_map]; show _ < 16777216; omega) ?_
        array_get_dec
        have := stp true c
        rw [if_pos rfl, List.map_append, List.map_append] at this
        rw [show T.map PyData.int ++ [.int p] = (T ++ [p]).map .int by simp]
        exact this
      · array_get_dec
        have := stp false c
        rw [if_neg (by decide), List.append_nil] at this
        exact this
theorem aare_floors_ok {n : Int} {ts : List (Int × Int)} (g : Good n ts) {X : XF} {Q : R → S → Prop} (h : Q (.d (.bool true)) [.d (webD n ts), .d (.dict (dcI (flo ts (sb n.toNat))))]) : m__law_aare_floors [.d (webD n ts), .d (.dict (dcI (flo ts (sb n.toNat))))] X Q := by
  have n0 := g.n0
  have n10 := g.n10
  have sl := sb_small n10
  have fin' : ∀ S, S ∈ sb n.toNat → Set' n S := fun S hS => by
    have := sb_iff.mp hS
    rw [show ((n.toNat : Nat) : Int) = n by omega] at this
    exact this
  have hin : ∀ S, Set' n S → S ∈ sb n.toNat := fun S hS => sb_iff.mpr (by rw [show ((n.toNat : Nat) : Int) = n by omega]; exact hS)
  unfold m__law_aare_floors b__law_aare_floors
  refine st_sem rfl ?_
  array_get_dec
  rw [asets_eq]
  refine all_sets_ok n0 n10 fun fin => ?_
  array_get_dec
  have fl : (flo ts (sb n.toNat)).length = (sb n.toNat).length := by unfold flo; rw [List.length_map]
  refine st_len2_T ?_
  array_get_dec
  rw [List.length_map, List.length_map, List.length_map, fl]
  refine st_iteF (by rw [decide_eq_true rfl]; rfl) ?_
  array_get_dec
  refine ⟨by rw [List.length_map]; show _ ≤ 16777216; omega, ?_⟩
  array_get_dec
  refine comp_filter tupI tupI (fun _ => false) _ (fun S hS kT kF hT hF => ?_) ?_
  · array_get_dec
    refine dcI_nin ?_
    rw [flo_isSome hS]
    array_get_dec
    exact hF rfl
  rw [show ((sb n.toNat).filter fun _ => false) = [] by simp]
  array_get_dec
  refine st_ne_ll (ns := []) (ms := []) ?_
  array_get_dec
  refine ⟨by rw [List.length_map]; show _ ≤ 16777216; omega, ?_⟩
  array_get_dec
  refine comp_list tupI (fun _ => .bool true) _ (fun S hS kT hkT => ?_) ?_
  · array_get_dec
    refine dcI_ix (flo_lk hS) ?_
    array_get_dec
    refine awhole_ok fun fin => ?_
    array_get_dec
    exact hkT
  array_get_dec
  refine st_in_ff ?_
  array_get_dec
  refine dcI_ix (k := []) (flo_lk (hin [] ⟨.nil, fun z hz => (nomatch hz)⟩)) ?_
  rw [chi_nil]
  array_get_dec
  rw [show (1 : Int) = ((1 : Nat) : Int) from rfl, cut_from]
  refine loop_list tupI (fun l s => (∀ S ∈ l, Set' n S) ∧ s = [.d (webD n ts), .d (.dict (dcI (flo ts (sb n.toNat)))), .d (.list ((sb n.toNat).map tupI)), .no, .no, .no, .no]) ?_ ?_ _ _ ⟨fun S hS => fin' S (List.mem_of_mem_drop hS), rfl⟩
  · rintro s ⟨_, rfl⟩
    array_get_dec
    exact h
  · rintro S l s k ⟨hS, rfl⟩ hk
    have sS := hS S List.mem_cons_self
    have few := sS.few n10
    rw [show tupI S = PyData.tuple (S.map .int) from rfl]
    array_get_dec
    refine aparts_ok g sS fun fin => ?_
    array_get_dec
    refine loop_list tupI (fun l s => (∀ P ∈ l, P ∈ fp ts S) ∧ s = [.d (webD n ts), .d (.dict (dcI (flo ts (sb n.toNat)))), .d (.list ((sb n.toNat).map tupI)), .d (.tuple (S.map .int)), .no, .no, .no]) ?_ ?_ _ _ ⟨fun P hP => hP, rfl⟩
    · rintro s ⟨_, rfl⟩
      array_get_dec
      exact hk _ ⟨fun T hT => hS T (List.mem_cons_of_mem _ hT), rfl⟩
    · rintro P l2 s k2 ⟨hP, rfl⟩ hk2
      have hPS := hP P List.mem_cons_self
      have ap : ApS ts P := by
        cases S with
        | nil =>
          have hPS : P ∈ fpG ts [[]] [] := hPS
          rw [List.mem_singleton.mp hPS]
          exact .nil
        | cons x r =>
          obtain ⟨_, _, _, a⟩ := fp_iff.mp hPS
          exact a
      have cp := chi_part (S := S) ap
      have sw : Set' n (wo S P) := wo_set sS
      rw [show tupI P = PyData.tuple (P.map .int) from rfl]
      array_get_dec
      refine ⟨by rw [List.length_map]; show _ ≤ 16777216; omega, ?_⟩
      array_get_dec
      refine comp_filter PyData.int PyData.int (fun z => !decide (z ∈ P)) _ (fun z hz kT kF hT hF => ?_) ?_
      · array_get_dec
        refine st_ite (fun c => ?_) (fun c => ?_)
        · array_get_dec
          exact hT c
        · exact hF c
      array_get_dec
      rw [show PyData.tuple (S.map .int) = tupI S from rfl, show PyData.tuple ((S.filter fun z => !decide (z ∈ P)).map .int) = tupI (wo S P) from rfl]
      refine dcI_ix (flo_lk (hin S sS)) ?_
      array_get_dec
      refine dcI_ix (flo_lk (hin _ sw)) ?_
      array_get_dec
      exact hk2 _ ⟨fun T hT => hP T (List.mem_cons_of_mem _ hT), rfl⟩
theorem are_floors_ok {n m : Int} {ts : List (Int × Int)} (g : Good n ts) {X : XF} {Q : R → S → Prop} (h : Q (.d (.bool (decide (m ≤ (chi ts (rangeI n.toNat) : Int))))) [.d (webD n ts), .d (.dict (dcI (flo ts (sb n.toNat)))), .d (.int m)]) : m_are_floors [.d (webD n ts), .d (.dict (dcI (flo ts (sb n.toNat)))), .d (.int m)] X Q := by
  have n0 := g.n0
  have n10 := g.n10
  have sl := sb_small n10
  have fin' : ∀ S, S ∈ sb n.toNat → Set' n S := fun S hS => by
    have := sb_iff.mp hS
    rw [show ((n.toNat : Nat) : Int) = n by omega] at this
    exact this
  have hin : ∀ S, Set' n S → S ∈ sb n.toNat := fun S hS => sb_iff.mpr (by rw [show ((n.toNat : Nat) : Int) = n by omega]; exact hS)
  unfold m_are_floors b_are_floors
  refine st_sem rfl ?_
  array_get_dec
  refine need_web_ok g fun fin => ?_
  array_get_dec
  refine all_sets_ok n0 n10 fun fin => ?_
  array_get_dec
  have fl : (flo ts (sb n.toNat)).length = (sb n.toNat).length := by unfold flo; rw [List.length_map]
  refine st_len2_T ?_
  array_get_dec
  rw [List.length_map, List.length_map, List.length_map, fl]
  refine st_iteF (by rw [decide_eq_true rfl]; rfl) ?_
  array_get_dec
  refine ⟨by rw [List.length_map]; show _ ≤ 16777216; omega, ?_⟩
  array_get_dec
  refine comp_list tupI (fun _ => .bool true) _ (fun S hS kT hkT => ?_) ?_
  · array_get_dec
    refine dcI_in ?_
    rw [flo_isSome hS]
    array_get_dec
    exact hkT
  array_get_dec
  refine st_all_map ?_
  rw [show ((sb n.toNat).all fun _ => true) = true by simp]
  array_get_dec
  refine loop_list tupI (fun l s => (∀ S ∈ l, Set' n S) ∧ s = [.d (webD n ts), .d (.dict (dcI (flo ts (sb n.toNat)))), .d (.int m), .d (.list ((sb n.toNat).map tupI)), .no, .no]) ?_ ?_ _ _ ⟨fun S hS => fin' S hS, rfl⟩
  · rintro s ⟨_, rfl⟩
    obtain ⟨pre, e⟩ := sb_last n.toNat
    array_get_dec
    refine st_ix_l (x := tupI (rangeI n.toNat)) (by rw [e, List.map_append]; exact L2.atI_last _ _) ?_
    array_get_dec
    refine dcI_ix (flo_lk (by rw [e]; simp)) ?_
    array_get_dec
    exact h
  · rintro S l s k ⟨hS, rfl⟩ hk
    have sS := hS S List.mem_cons_self
    have few := sS.few n10
    have done : k [.d (webD n ts), .d (.dict (dcI (flo ts (sb n.toNat)))), .d (.int m), .d (.list ((sb n.toNat).map tupI)), .no, .no] := hk _ ⟨fun T hT => hS T (List.mem_cons_of_mem _ hT), rfl⟩
    by_cases hn : S = []
    · subst hn
      rw [show tupI [] = PyData.tuple (([] : List Int).map .int) from rfl]
      array_get_dec
      refine st_eq_tt (ms := []) ?_
      rw [decide_eq_true rfl]
      array_get_dec
      refine dcI_ix (k := []) (flo_lk (hin [] sS)) ?_
      rw [chi_nil]
      array_get_dec
      refine st_ne_tt (ns := []) (ms := []) ?_
      array_get_dec
      exact done
    · rw [show tupI S = PyData.tuple (S.map .int) from rfl]
      array_get_dec
      refine st_eq_tt (ms := []) ?_
      rw [decide_eq_false hn]
      array_get_dec
      refine st_ne_tt (ms := []) ?_
      rw [decide_eq_false hn]
      array_get_dec
      refine first_parts_ok few fun fin => ?_
      array_get_dec
      refine ⟨by
        rw [List.length_map]
        have := fp_len (ts := ts) (S := S) few
        show _ ≤ 16777216
        omega, ?_⟩
      array_get_dec
      refine comp_list tupI (fun _ => .bool true) _ (fun P hP kT hkT => ?_) ?_
      · obtain ⟨_, ap, _⟩ := fp_sub hn hP
        have cp := chi_part (S := S) ap
        rw [show tupI P = PyData.tuple (P.map .int) from rfl]
        rw [show PyData.tuple (S.map .int) = tupI S from rfl]
        array_get_dec
        refine dcI_ix (flo_lk (hin S sS)) ?_
        rw [show tupI S = PyData.tuple (S.map .int) from rfl]
        array_get_dec
        refine without_ok (by omega) fun fin => ?_
        array_get_dec
        rw [show PyData.tuple ((wo S P).map .int) = tupI (wo S P) from rfl]
        refine dcI_ix (flo_lk (hin _ (wo_set sS))) ?_
        array_get_dec
        rw [decide_eq_true (by omega)]
        exact hkT
      array_get_dec
      refine st_all_map ?_
      rw [show ((fp ts S).all fun _ => true) = true by simp]
      array_get_dec
      exact done
theorem aright_ok {n : Int} {ts : List (Int × Int)} (g : Good n ts) {X : XF} {Q : R → S → Prop} (h : ∀ fin, Q (.d (.bool true)) fin) : m__law_aright [.d (webD n ts)] X Q := by
  have n0 := g.n0
  have n10 := g.n10
  unfold m__law_aright b__law_aright
  refine st_sem rfl ?_
  array_get_dec
  refine fewest_ok g fun hs fin hl ok => ?_
  array_get_dec
  refine st_mov ?_
  dsimp only [List.set]
  array_get_dec
  refine awhole_ok fun fin => ?_
  array_get_dec
  rw [List.length_map, hl]
  refine st_iteF (by rw [decide_eq_true (show ((n.toNat : Nat) : Int) = n by omega)]; rfl) ?_
  array_get_dec
  refine ⟨by rw [List.length_map]; show _ ≤ 16777216; omega, ?_⟩
  array_get_dec
  refine comp_list PyData.int (fun _ => .bool true) _ (fun z hz kT hkT => ?_) ?_
  · array_get_dec
    refine awhole_ok fun fin => ?_
    array_get_dec
    exact hkT
  array_get_dec
  refine st_in_ff ?_
  array_get_dec
  have cl := chi_len ts (rangeI n.toNat)
  rw [rangeI_len] at cl
  have mem : ∀ z, z ∈ hs ↔ z ∈ rangeI (chi ts (rangeI n.toNat)) := fun z => by
    rw [rangeI_mem]
    constructor
    · intro hz
      obtain ⟨i, hi, rfl⟩ := List.mem_iff_getElem.mp hz
      have := ok.lt (i : Int) ⟨by omega, by omega⟩
      rw [show atZ hs (i : Int) = hs[i] by unfold atZ; simp [List.getD_eq_getElem?_getD, hi]] at this
      exact this
    · rintro ⟨h0, h1⟩
      obtain ⟨p, ⟨p0, p1⟩, e⟩ := ok.all z.toNat (by omega)
      rw [show ((z.toNat : Nat) : Int) = z by omega] at e
      rw [← e]
      unfold atZ
      rw [List.getD_eq_getElem?_getD, List.getElem?_eq_getElem (by omega)]
      exact List.getElem_mem _
  refine st_sortedSetT (by omega) fun ms up mm => ?_
  have e : ms = rangeI (chi ts (rangeI n.toNat)) := lt_eq up rangeI_up fun z => (mm z).trans (mem z)
  subst e
  array_get_dec
  refine ⟨by unfold L2.RgOk; omega, ?_⟩
  array_get_dec
  rw [rangeD_map, show (((chi ts (rangeI n.toNat) : Nat) : Int)).toNat = chi ts (rangeI n.toNat) by omega]
  refine st_ne_ll ?_
  rw [decide_eq_true rfl]
  rw [show webD n ts = PyData.tuple [.int n, .tuple (ts.map pairD)] from rfl]
  array_get_dec
  have few := g.few
  refine ⟨by rw [List.length_map]; show _ ≤ 16777216; omega, ?_⟩
  array_get_dec
  refine comp_filter pairD pairD (fun _ => false) _ (fun p hp kT kF hT hF => ?_) ?_
  · have t := g.ties p hp
    have ne := ok.ne p.1 p.2 ⟨t.1, by omega⟩ ⟨by omega, t.2.2⟩ (by omega) (by
      unfold Tb
      rw [show min p.1 p.2 = p.1 by omega, show max p.1 p.2 = p.2 by omega]
      exact decide_eq_true hp)
    rw [show pairD p = PyData.tuple [.int p.1, .int p.2] from rfl]
    array_get_dec
    refine st_ix_t (atZ_ok t.1 (by omega)) ?_
    array_get_dec
    refine st_ix_t (atZ_ok (by omega) (by omega)) ?_
    array_get_dec
    exact hF rfl
  rw [show (ts.filter fun _ => false) = [] by simp]
  array_get_dec
  refine st_ne_ll (ns := []) (ms := []) ?_
  array_get_dec
  refine aare_floors_ok g ?_
  array_get_dec
  refine ⟨by unfold L2.RgOk; omega, ?_⟩
  array_get_dec
  rw [rangeD_map, show PyData.tuple ((rangeI n.toNat).map .int) = tupI (rangeI n.toNat) from rfl]
  have rin : rangeI n.toNat ∈ sb n.toNat := by
    obtain ⟨pre, e⟩ := sb_last n.toNat
    rw [e]
    simp
  refine dcI_ix (flo_lk rin) ?_
  array_get_dec
  refine are_hues_ok g hl (fun z hz => (rangeI_mem.mp ((mem z).mp hz)).1) (fun p hp => by
    have t := g.ties p hp
    exact ok.ne p.1 p.2 ⟨t.1, by omega⟩ ⟨by omega, t.2.2⟩ (by omega) (by
      unfold Tb
      rw [show min p.1 p.2 = p.1 by omega, show max p.1 p.2 = p.2 by omega]
      exact decide_eq_true hp)) fun fin => ?_
  array_get_dec
  refine are_floors_ok g ?_
  rw [decide_eq_true (Int.le_refl _)]
  array_get_dec
  refine are_floors_ok g ?_
  rw [decide_eq_false (by omega)]
  array_get_dec
  refine st_dclr ?_
  dsimp only [List.set]
  array_get_dec
  exact h _
theorem law_holds : ∀ ns : List Int, ns.length ≤ 63 → (∀ z ∈ ns, Builtin.Int.intBits z ≤ 1048576) → m_law [.d (litD ns)] (fun _ _ => False) (fun r _ => r = .d (.bool true)) := by
  intro ns hns _
  unfold m_law b_law
  refine st_sem rfl ?_
  array_get_dec
  refine ⟨by unfold lim62; omega, by unfold lim62; omega, ?_⟩
  array_get_dec
  refine loop_range (lo := 0) (fun i s => s = [.d (litD ns), .no, .no, .no]) (fun s e => ?_) (fun i s k h0 hlt e hk => ?_) rfl
  · subst e
    array_get_dec
    rfl
  · subst e
    obtain ⟨st, rfl⟩ := Int.eq_ofNat_of_zero_le h0
    array_get_dec
    refine tape_ok (by omega) fun z fin => ?_
    array_get_dec
    refine aweb_of_ok fun n ts z' hn g => ?_
    have n0 := g.n0
    array_get_dec
    refine ⟨by unfold lim62; split <;> decide, ?_⟩
    array_get_dec
    refine loop_range1 (hi := 1 + if decide (n < 8) = true then 1 else 0) (fun i s => s = [.d (litD ns), .d (.int st), .d (webD n ts), .no]) (fun s e => ?_) (fun i s k2 i0 i1 e hk2 => ?_) rfl
    · subst e
      array_get_dec
      exact hk _ rfl
    · subst e
      array_get_dec
      refine aright_ok g fun fin => ?_
      array_get_dec
      exact hk2 _ rfl
end Lk22
open PySem PySem.W PySem.Calls PyProof.Rows
set_option maxHeartbeats 0 in
theorem PySem.Challenge.cw_hueshare_k22_whole_hues_told_holds : PySem.Challenge.rw_hueshare_k22_whole_hues_told.Holds := by
  w_on; o_law
  refine HandSHeadRun.head_any (r := OpenLaw.row PySem.Challenge.rw_hueshare_k22_whole_hues_told) (q := view (OpenLaw.row PySem.Challenge.rw_hueshare_k22_whole_hues_told).prog [34]) (H := Lk22.hk) (ob := Lk22.ob) (M := 4000) (loose := Lk22.nm) (d := HandSHeadRun.topDef (OpenLaw.row PySem.Challenge.rw_hueshare_k22_whole_hues_told).prog 34) (kwd := []) Lk22.ob_eq
    (by kernel_rfl) (fun s => by kernel_rfl) Lk22.run (by kernel_rfl) (by kernel_rfl) (by kernel_rfl) (by rfl) (by first | assumption | decide +kernel) (by decide +kernel) ⟨rfl, rfl, rfl, rfl, rfl, by decide +kernel⟩ ?hw ?hc
  case hw => w_witness2
  case hc =>
    refine Hs.walk_ofBE (l := PySem.Challenge.rw_hueshare_k22_whole_hues_told) (n := 63) (k := 9) (ms := [false]) (sem := Lk22.m_law) rfl (by decide) (by kernel_rfl) ⟨rfl, by decide, by decide⟩ ?F Lk22.law_holds
    intro w mg fa h Y G hmg0
    obtain ⟨K, KX, c⟩ := Y
    have hmg : mg ("law" : PySem.Str) = some (.ref fa) := by
      have e : (HandSHeadRun.topDef (OpenLaw.row PySem.Challenge.rw_hueshare_k22_whole_hues_told).prog 34).name = ("law" : PySem.Str) := by kernel_rfl
      rw [← e]
      exact hmg0
    obtain ⟨fd, hb, hF⟩ := Lk22.facts (P := (PySem.Challenge.rw_hueshare_k22_whole_hues_told).prog) (w := w) KX G hmg c
    exact ⟨K, fd, KX, hb, hF⟩
