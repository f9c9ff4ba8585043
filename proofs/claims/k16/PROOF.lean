import PyProof.Rows.All
import Wide.All
import OpenK.AllK
import Wide.FinOn
import HandS.ForMost
import HandS.Wide
import HandS.HeadHook1
import HandS.HeadHook2
import HandS.IsInst
import HandS.TupLe
import HandS.TupAny
import HandS.Style
import HandS.Deep
import HandS.Flow
import HandS.TupMul
import HandS.List
import HandS.Conv
import HandS.Zip
import HandS.NoneIn
import HandS.Small
import HandS.Defaults
import HandS.Ends
import HandS.HeadEnd
import HandS.Dict
import HandS.Comp
import HandS.TupSets
import HandS.SortInts
import HandS.SortRule
import HandS.NamedTupSort
import KE.KStateDown
import HandS.Head0
import HandS.Head1
import HandS.Head2
import HandS.SetFor
import HandS.Strs
import KE.GoesMore
import KE.DataMinMax
import KE.SortData
import HandS.More
import KE.KDictPairs
import HandS.SetTxt0
import HandS.Text
import PyProof.Rows.StrMeet
import HandS.HeadHook3
import HandS.SetKeys
import KE.SortCalls
import HandS.ListItems
import Lean
import HandS.Words
import HandS.WordsExc
import PySem.Challenge.RW_facejudge_k16_whole_conditions_by_their

set_option Elab.async false
set_option linter.all false
set_option maxRecDepth 100000
set_option maxHeartbeats 4000000
set_option autoImplicit false
/-! A layer over HandS: data frozen in the heap, cells that a def owns, and how slots and temporaries stand for them. -/
namespace Fj
open PySem PySem.Spec PyProof.Rows L2

/-! ### data that stand in a heap -/
mutual
inductive Rp (K : PySem.W.Frag) (F : Hp) : V → PyData → Prop
  | non : Rp K F .non .none
  | bl (b : Bool) : Rp K F (.bl b) (.bool b)
  | int (i : Int) : Rp K F (.int i) (.int i)
  | str (x : Str) : Rp K F (.str x) (.str x)
  | lst {a : Addr} {xs : List V} {ds : List PyData} (h : F a = some (.lst xs)) (r : Rps K F xs ds) : Rp K F (.ref a) (.list ds)
  | tup {a : Addr} {xs : List V} {ds : List PyData} (h : SqT K F a xs) (r : Rps K F xs ds) : Rp K F (.ref a) (.tuple ds)
  | dct {a : Addr} {vs : List (Key × V)} {kvs : List (PyData × PyData)} (h : F a = some (.dK vs)) (r : Rpk K F vs kvs) : Rp K F (.ref a) (.dict kvs)
inductive Rps (K : PySem.W.Frag) (F : Hp) : List V → List PyData → Prop
  | nil : Rps K F [] []
  | cons {v : V} {vs : List V} {d : PyData} {ds : List PyData} (r : Rp K F v d) (t : Rps K F vs ds) : Rps K F (v :: vs) (d :: ds)
inductive Rpk (K : PySem.W.Frag) (F : Hp) : List (Key × V) → List (PyData × PyData) → Prop
  | nil : Rpk K F [] []
  | int {i : Int} {v : V} {d : PyData} {vs : List (Key × V)} {kvs : List (PyData × PyData)} (r : Rp K F v d) (t : Rpk K F vs kvs) : Rpk K F ((.inl i, v) :: vs) ((.int i, d) :: kvs)
  | str {x : Str} {v : V} {d : PyData} {vs : List (Key × V)} {kvs : List (PyData × PyData)} (r : Rp K F v d) (t : Rpk K F vs kvs) : Rpk K F ((.inr x, v) :: vs) ((.str x, d) :: kvs)
end
section
variable {K : PySem.W.Frag} {F F' : Hp}
theorem same_tup {a : Addr} {xs : List V} (e : Same F F') (h : SqT K F a xs) : SqT K F' a xs := by
  rcases h with (h | ⟨o, h⟩) | h
  · exact .inl (.inl (e _ _ h))
  · exact .inl (.inr ⟨o, e _ _ h⟩)
  · exact .inr h
mutual
theorem Rp.mono (e : Same F F') : ∀ {v : V} {d : PyData}, Rp K F v d → Rp K F' v d
  | _, .none, h => by cases h; exact .non
  | _, .bool _, h => by cases h; exact .bl _
  | _, .int _, h => by cases h; exact .int _
  | _, .str _, h => by cases h; exact .str _
  | _, .list ds, h => by
    cases h with
    | lst h r => exact .lst (e _ _ h) (Rps.mono e r)
  | _, .tuple ds, h => by
    cases h with
    | tup h r => exact .tup (same_tup e h) (Rps.mono e r)
  | _, .dict kvs, h => by
    cases h with
    | dct h r => exact .dct (e _ _ h) (Rpk.mono e r)
theorem Rps.mono (e : Same F F') : ∀ {vs : List V} {ds : List PyData}, Rps K F vs ds → Rps K F' vs ds
  | _, [], h => by cases h; exact .nil
  | _, d :: ds, h => by
    cases h with
    | cons r t => exact .cons (Rp.mono e r) (Rps.mono e t)
theorem Rpk.mono (e : Same F F') : ∀ {vs : List (Key × V)} {kvs : List (PyData × PyData)}, Rpk K F vs kvs → Rpk K F' vs kvs
  | _, [], h => by cases h; exact .nil
  | _, (k, d) :: kvs, h => by
    cases h with
    | int r t => exact .int (Rp.mono e r) (Rpk.mono e t)
    | str r t => exact .str (Rp.mono e r) (Rpk.mono e t)
end
mutual
theorem Rp.dp : ∀ {v : V} {d : PyData}, Rp K F v d → PyData.canLay0 d = true → Dp K F v d
  | _, .none, h, _ => by cases h; exact .non
  | _, .bool _, h, _ => by cases h; exact .bl _
  | _, .int _, h, _ => by cases h; exact .int _
  | _, .str _, h, _ => by cases h; exact .str _
  | _, .list ds, h, n => by
    cases h with
    | lst h r => exact .lst (.inl (.inl h)) (Rps.dp r (by simpa only [PyData.canLay0] using n))
  | _, .tuple ds, h, n => by
    cases h with
    | tup h r => exact .tup h (Rps.dp r (by simpa only [PyData.canLay0] using n))
  | _, .dict _, h, n => by simp [PyData.canLay0] at n
theorem Rps.dp : ∀ {vs : List V} {ds : List PyData}, Rps K F vs ds → PyData.canLayAll0 ds = true → DpAll K F vs ds
  | _, [], h, _ => by cases h; exact .nil
  | _, d :: ds, h, n => by
    cases h with
    | cons r t =>
      simp only [PyData.canLayAll0, Bool.and_eq_true] at n
      exact .cons (Rp.dp r n.1) (Rps.dp t n.2)
end
mutual
def nlD : PyData → Bool
  | .none => true
  | .bool _ => true
  | .int _ => true
  | .str _ => true
  | .list _ => false
  | .tuple xs => nlAll xs
  | .dict _ => false
def nlAll : List PyData → Bool
  | [] => true
  | d :: ds => nlD d && nlAll ds
end
mutual
theorem Rp.nl (e : ∀ (a : Addr) (xs : List V), SqT K F a xs → SqT K F' a xs) : ∀ {v : V} {d : PyData}, nlD d = true → Rp K F v d → Rp K F' v d
  | _, .none, _, h => by cases h; exact .non
  | _, .bool _, _, h => by cases h; exact .bl _
  | _, .int _, _, h => by cases h; exact .int _
  | _, .str _, _, h => by cases h; exact .str _
  | _, .list ds, n, h => by simp [nlD] at n
  | _, .tuple ds, n, h => by
    cases h with
    | tup h r => exact .tup (e _ _ h) (Rps.nl e (by simpa only [nlD] using n) r)
  | _, .dict _, n, h => by simp [nlD] at n
theorem Rps.nl (e : ∀ (a : Addr) (xs : List V), SqT K F a xs → SqT K F' a xs) : ∀ {vs : List V} {ds : List PyData}, nlAll ds = true → Rps K F vs ds → Rps K F' vs ds
  | _, [], _, h => by cases h; exact .nil
  | _, d :: ds, n, h => by
    cases h with
    | cons r t =>
      simp only [nlAll, Bool.and_eq_true] at n
      exact .cons (Rp.nl e n.1 r) (Rps.nl e n.2 t)
end
theorem Rps.length {vs : List V} {ds : List PyData} (h : Rps K F vs ds) : vs.length = ds.length := by
  induction ds generalizing vs with
  | nil => cases h; rfl
  | cons d ds ih => cases h with | cons r t => rw [List.length_cons, List.length_cons, ih t]
theorem Rps.get {vs : List V} {ds : List PyData} {i : Nat} {d : PyData} (h : Rps K F vs ds) (e : ds[i]? = some d) : ∃ v, vs[i]? = some v ∧ Rp K F v d := by
  induction ds generalizing vs i with
  | nil => simp at e
  | cons x ds ih =>
    cases h with
    | cons r t =>
      cases i with
      | zero =>
        simp only [List.getElem?_cons_zero, Option.some.injEq] at e
        subst e
        exact ⟨_, rfl, r⟩
      | succ i => exact ih (i := i) t (by simpa using e)
theorem Rps.app {vs ws : List V} {ds es : List PyData} (h : Rps K F vs ds) (g : Rps K F ws es) : Rps K F (vs ++ ws) (ds ++ es) := by
  induction ds generalizing vs with
  | nil => cases h; exact g
  | cons d ds ih => cases h with | cons r t => exact .cons r (ih t)
theorem Rps.one {v : V} {d : PyData} (h : Rp K F v d) : Rps K F [v] [d] := .cons h .nil
theorem Rps.takeN {vs : List V} {ds : List PyData} (n : Nat) (h : Rps K F vs ds) : Rps K F (vs.take n) (ds.take n) := by
  induction ds generalizing vs n with
  | nil => cases h; simp; exact .nil
  | cons d ds ih =>
    cases h with
    | cons r t =>
      cases n with
      | zero => exact .nil
      | succ n => exact .cons r (ih n t)
theorem Rps.dropN {vs : List V} {ds : List PyData} (n : Nat) (h : Rps K F vs ds) : Rps K F (vs.drop n) (ds.drop n) := by
  induction ds generalizing vs n with
  | nil => cases h; simp; exact .nil
  | cons d ds ih =>
    cases h with
    | cons r t =>
      cases n with
      | zero => exact .cons r t
      | succ n => exact ih n t
theorem Rps.rev {vs : List V} {ds : List PyData} (h : Rps K F vs ds) : Rps K F vs.reverse ds.reverse := by
  induction ds generalizing vs with
  | nil => cases h; exact .nil
  | cons d ds ih =>
    cases h with
    | cons r t =>
      rw [List.reverse_cons, List.reverse_cons]
      exact (ih t).app (.one r)
theorem Rps.setN {vs : List V} {ds : List PyData} {v : V} {d : PyData} (i : Nat) (h : Rps K F vs ds) (r : Rp K F v d) : Rps K F (vs.set i v) (ds.set i d) := by
  induction ds generalizing vs i with
  | nil => cases h; exact .nil
  | cons x ds ih =>
    cases h with
    | cons r' t =>
      cases i with
      | zero => exact .cons r t
      | succ i => exact .cons r' (ih i t)
end

/-! ### cells, entries, slots -/
/-- what an object of a tree is: a list, a dict of these keys, an instance of a class with these names -/
inductive Nd where
  | lst
  | dct (ks : List Key)
  | obj (cn : Str) (ns : List Str)
/-- data, an object and what stands in it, or what is taken out for a time -/
inductive Tr where
  | leaf (d : PyData)
  | node (n : Nd) (ts : List Tr)
  | gone (k : Nat)
/-- an object that a def may change -/
inductive Cell where
  | lst (ds : List PyData)
  | dct (kvs : List (Key × PyData))
  | deck (s : Nat) (left : List Int) (mixed turn : Int)
  | tr (t : Tr)
/-- the names in a deck: its cells, its mark, its count -/
def dkK : Nat → Str × Str × Str
  | 0 => ("left", "mixed", "turn")
  | 1 => ("cells", "mixed", "turn")
  | 2 => ("left", "mixed", "draws")
  | _ => ("cells", "mixed", "draws")
/-- what a slot or a temporary stands for -/
inductive Ent where
  | no
  | val (d : PyData)
  | own (fr : Bool) (c : Cell)
  | scr (ns : List Int)
  | lent
  | fzo (cn : Str) (ns : List Str) (os : List (Option PyData))
/-- a slot that may not be written: a cell of the caller's, or one that is lent just now -/
def pinE : Ent → Bool
  | .own false _ => true
  | .lent => true
  | _ => false
/-- where a def began: frozen data, the heap, what it may change, slots that stay -/
structure Ct where
  F0 : Hp
  H0 : Hp
  W : Addr → Prop
  pins : List (Option V)
  gn : Nat → Option V
/-- one object of a tree: where it stands, what is in it, which addresses are its own -/
inductive NodeAt (K : PySem.W.Frag) (H : Hp) : Addr → Nd → List V → List Addr → Prop
  | lst {a : Addr} {vs : List V} (h : H a = some (.lst vs)) : NodeAt K H a .lst vs [a]
  | dct {a : Addr} {ks : List Key} {vs : List V} (h : H a = some (.dK (ks.zip vs))) (l : ks.length = vs.length) (nd : ks.Nodup) : NodeAt K H a (.dct ks) vs [a]
  | obj {a dx : Addr} {cn : Str} {ns : List Str} {vs : List V} (h : H a = some (.ins (He.ga K cn) dx (ns.zip vs))) (l : ns.length = vs.length) (g : H dx = some (.own a)) : NodeAt K H a (.obj cn ns) vs [a, dx]
mutual
inductive TrAt (K : PySem.W.Frag) (G : Nat → Option V) (F H : Hp) : V → Tr → List Addr → Prop
  | leaf {v : V} {d : PyData} (r : Rp K F v d) : TrAt K G F H v (.leaf d) []
  | node {a : Addr} {n : Nd} {vs : List V} {ts : List Tr} {xs fc : List Addr} (h : NodeAt K H a n vs xs) (t : TrsAt K G F H vs ts fc) : TrAt K G F H (.ref a) (.node n ts) (xs ++ fc)
  | gone {k : Nat} {v : V} (h : G k = some v) : TrAt K G F H v (.gone k) []
inductive TrsAt (K : PySem.W.Frag) (G : Nat → Option V) (F H : Hp) : List V → List Tr → List Addr → Prop
  | nil : TrsAt K G F H [] [] []
  | cons {v : V} {t : Tr} {vs : List V} {ts : List Tr} {f g : List Addr} (h : TrAt K G F H v t f) (r : TrsAt K G F H vs ts g) : TrsAt K G F H (v :: vs) (t :: ts) (f ++ g)
end
inductive CellAt (K : PySem.W.Frag) (G : Nat → Option V) (F H : Hp) : V → Cell → List Addr → Prop
  | lst {a : Addr} {vs : List V} {ds : List PyData} (h : H a = some (.lst vs)) (r : Rps K F vs ds) : CellAt K G F H (.ref a) (.lst ds) [a]
  | dct {a : Addr} {vs : List (Key × V)} {kvs : List (Key × PyData)} (h : H a = some (.dK vs)) (hk : vs.map (·.1) = kvs.map (·.1)) (r : Rps K F (vs.map (·.2)) (kvs.map (·.2))) : CellAt K G F H (.ref a) (.dct kvs) [a]
  | deck {a b : Addr} {s : Nat} {left : List Int} {m t : Int} (h : H a = some (.dK [(.inr (dkK s).1, .ref b), (.inr (dkK s).2.1, .int m), (.inr (dkK s).2.2, .int t)])) (g : H b = some (.lst (left.map V.int))) : CellAt K G F H (.ref a) (.deck s left m t) [a, b]
  | tr {v : V} {t : Tr} {fc : List Addr} (h : TrAt K G F H v t fc) : CellAt K G F H v (.tr t) fc
/-- what is known of some values -/
inductive Rpo (K : PySem.W.Frag) (F : Hp) : List V → List (Option PyData) → Prop
  | nil : Rpo K F [] []
  | cons {v : V} {o : Option PyData} {vs : List V} {os : List (Option PyData)} (h : ∀ d, o = some d → Rp K F v d) (r : Rpo K F vs os) : Rpo K F (v :: vs) (o :: os)
theorem Rpo.mono {K : PySem.W.Frag} {F F' : Hp} {vs : List V} {os : List (Option PyData)} (e : Same F F') (h : Rpo K F vs os) : Rpo K F' vs os := by
  induction h with
  | nil => exact .nil
  | cons h r ih => exact .cons (fun d z => (h d z).mono e) ih
inductive SlotOk (K : PySem.W.Frag) (c : Ct) (F H : Hp) : Option V × Ent → List Addr → Prop
  | no (x : Option V) : SlotOk K c F H (x, .no) []
  | val {v : V} {d : PyData} (r : Rp K F v d) : SlotOk K c F H (some v, .val d) []
  | own {v : V} {fr : Bool} {ce : Cell} {fc : List Addr} (r : CellAt K c.gn F H v ce fc) (h : fr = true → ∀ a ∈ fc, c.H0 a = none) : SlotOk K c F H (some v, .own fr ce) fc
  | scr {a : Addr} {ns : List Int} (h : SqL K c.H0 a (ns.map V.int)) (w : ¬ c.W a) : SlotOk K c F H (some (.ref a), .scr ns) []
  | lent (x : Option V) : SlotOk K c F H (x, .lent) []
  | fzo {a dx : Addr} {cn : Str} {ns : List Str} {vs : List V} {os : List (Option PyData)} (h : F a = some (.ins (He.ga K cn) dx (ns.zip vs))) (l : ns.length = vs.length) (r : Rpo K F vs os) : SlotOk K c F H (some (.ref a), .fzo cn ns os) []
inductive Slots (K : PySem.W.Frag) (c : Ct) (F H : Hp) : List (Option V × Ent) → List Addr → Prop
  | nil : Slots K c F H [] []
  | cons {x : Option V × Ent} {fc fp : List Addr} {l : List (Option V × Ent)} (h : SlotOk K c F H x fc) (t : Slots K c F H l fp) : Slots K c F H (x :: l) (fc ++ fp)
section
variable {K : PySem.W.Frag} {c : Ct} {F F' H H' : Hp} {l : List (Option V × Ent)} {fp fc : List Addr} {x y : Option V × Ent}
theorem NodeAt.there {a : Addr} {n : Nd} {vs : List V} {xs : List Addr} (h : NodeAt K H a n vs xs) : ∀ b ∈ xs, H b ≠ none := by
  intro b hb
  cases h with
  | lst h =>
    rw [List.mem_singleton] at hb
    rw [hb, h]
    exact fun z => nomatch z
  | dct h l nd =>
    rw [List.mem_singleton] at hb
    rw [hb, h]
    exact fun z => nomatch z
  | obj h l g =>
    rcases List.mem_cons.mp hb with e | e
    · rw [e, h]
      exact fun z => nomatch z
    · rw [List.mem_singleton] at e
      rw [e, g]
      exact fun z => nomatch z
theorem NodeAt.stay {a : Addr} {n : Nd} {vs : List V} {xs : List Addr} (h : NodeAt K H a n vs xs) (k : ∀ b ∈ xs, H' b = H b) : NodeAt K H' a n vs xs := by
  cases h with
  | lst h => exact .lst ((k _ (List.mem_singleton.mpr rfl)).trans h)
  | dct h l nd => exact .dct ((k _ (List.mem_singleton.mpr rfl)).trans h) l nd
  | obj h l g => exact .obj ((k _ (List.mem_cons_self ..)).trans h) l ((k _ (List.mem_cons_of_mem _ (List.mem_singleton.mpr rfl))).trans g)
section
variable {G : Nat → Option V}
mutual
theorem TrAt.there : ∀ {t : Tr} {v : V} {fc : List Addr}, TrAt K G F H v t fc → ∀ a ∈ fc, H a ≠ none
  | .leaf _, _, _, h => by
    cases h
    intro a ha
    cases ha
  | .gone _, _, _, h => by
    cases h
    intro a ha
    cases ha
  | .node _ _, _, _, h => by
    cases h with
    | node h t =>
      intro a ha
      exact (List.mem_append.mp ha).elim (h.there a) (TrsAt.there t a)
theorem TrsAt.there : ∀ {ts : List Tr} {vs : List V} {fc : List Addr}, TrsAt K G F H vs ts fc → ∀ a ∈ fc, H a ≠ none
  | [], _, _, h => by
    cases h
    intro a ha
    cases ha
  | _ :: _, _, _, h => by
    cases h with
    | cons h r =>
      intro a ha
      exact (List.mem_append.mp ha).elim (TrAt.there h a) (TrsAt.there r a)
end
mutual
theorem TrAt.stay (e : Same F F') : ∀ {t : Tr} {v : V} {fc : List Addr}, TrAt K G F H v t fc → (∀ a ∈ fc, H' a = H a) → TrAt K G F' H' v t fc
  | .leaf _, _, _, h, k => by
    cases h with
    | leaf r => exact .leaf (r.mono e)
  | .gone _, _, _, h, k => by
    cases h with
    | gone h => exact .gone h
  | .node _ _, _, _, h, k => by
    cases h with
    | node h t => exact .node (h.stay fun a ha => k a (List.mem_append_left _ ha)) (TrsAt.stay e t fun a ha => k a (List.mem_append_right _ ha))
theorem TrsAt.stay (e : Same F F') : ∀ {ts : List Tr} {vs : List V} {fc : List Addr}, TrsAt K G F H vs ts fc → (∀ a ∈ fc, H' a = H a) → TrsAt K G F' H' vs ts fc
  | [], _, _, h, k => by
    cases h
    exact .nil
  | _ :: _, _, _, h, k => by
    cases h with
    | cons h r => exact .cons (TrAt.stay e h fun a ha => k a (List.mem_append_left _ ha)) (TrsAt.stay e r fun a ha => k a (List.mem_append_right _ ha))
end
end
theorem CellAt.there {G : Nat → Option V} {v : V} {ce : Cell} (h : CellAt K G F H v ce fc) : ∀ a ∈ fc, H a ≠ none := by
  cases h with
  | lst h r =>
    intro a ha
    rw [List.mem_singleton] at ha
    rw [ha, h]
    exact fun z => nomatch z
  | dct h hk r =>
    intro a ha
    rw [List.mem_singleton] at ha
    rw [ha, h]
    exact fun z => nomatch z
  | deck h g =>
    intro a ha
    rcases List.mem_cons.mp ha with e | e
    · rw [e, h]
      exact fun z => nomatch z
    · rw [List.mem_singleton] at e
      rw [e, g]
      exact fun z => nomatch z
  | tr h => exact TrAt.there h
theorem CellAt.stay {G : Nat → Option V} {v : V} {ce : Cell} (e : Same F F') (h : CellAt K G F H v ce fc) (k : ∀ a ∈ fc, H' a = H a) : CellAt K G F' H' v ce fc := by
  cases h with
  | lst h r => exact .lst ((k _ (List.mem_singleton.mpr rfl)).trans h) (r.mono e)
  | dct h hk r => exact .dct ((k _ (List.mem_singleton.mpr rfl)).trans h) hk (r.mono e)
  | deck h g => exact .deck ((k _ (List.mem_cons_self ..)).trans h) ((k _ (List.mem_cons_of_mem _ (List.mem_singleton.mpr rfl))).trans g)
  | tr h => exact .tr (TrAt.stay e h k)
theorem SlotOk.there (h : SlotOk K c F H x fc) : ∀ a ∈ fc, H a ≠ none := by
  cases h with
  | no x => intro a ha; cases ha
  | val r => intro a ha; cases ha
  | own r h => exact r.there
  | scr h w => intro a ha; cases ha
  | lent x => intro a ha; cases ha
  | fzo h l r => intro a ha; cases ha
theorem SlotOk.stay (e : Same F F') (h : SlotOk K c F H x fc) (k : ∀ a ∈ fc, H' a = H a) : SlotOk K c F' H' x fc := by
  cases h with
  | no x => exact .no x
  | val r => exact .val (r.mono e)
  | own r h => exact .own (r.stay e k) h
  | scr h w => exact .scr h w
  | lent x => exact .lent x
  | fzo h l r => exact .fzo (e _ _ h) l (r.mono e)
theorem Slots.there (h : Slots K c F H l fp) : ∀ a ∈ fp, H a ≠ none := by
  induction h with
  | nil => intro a ha; cases ha
  | cons h t ih =>
    intro a ha
    rcases List.mem_append.mp ha with e | e
    · exact h.there a e
    · exact ih a e
theorem Slots.stay (e : Same F F') (h : Slots K c F H l fp) (k : ∀ a ∈ fp, H' a = H a) : Slots K c F' H' l fp := by
  induction h with
  | nil => exact .nil
  | cons h t ih => exact .cons (h.stay e fun a ha => k a (List.mem_append_left _ ha)) (ih fun a ha => k a (List.mem_append_right _ ha))
/-- one place of the slots -/
theorem Slots.place {i : Nat} (h : Slots K c F H l fp) (hi : l[i]? = some x) : ∃ f1 fc f2 : List Addr, fp = f1 ++ (fc ++ f2) ∧ SlotOk K c F H x fc ∧
    ∀ (F' H' : Hp) (y : Option V × Ent) (fc' : List Addr), Same F F' → (∀ a, a ∈ f1 ∨ a ∈ f2 → H' a = H a) → SlotOk K c F' H' y fc' → Slots K c F' H' (l.set i y) (f1 ++ (fc' ++ f2)) := by
  induction h generalizing i with
  | nil => simp at hi
  | @cons x0 fc0 fp0 l0 h t ih =>
    cases i with
    | zero =>
      simp only [List.getElem?_cons_zero, Option.some.injEq] at hi
      subst hi
      exact ⟨[], fc0, fp0, rfl, h, fun F' H' y fc' e k hy => Slots.cons (fc := fc') hy (t.stay e fun a ha => k a (.inr ha))⟩
    | succ i =>
      obtain ⟨f1, fc, f2, rfl, hx, q⟩ := ih (i := i) (by simpa using hi)
      refine ⟨fc0 ++ f1, fc, f2, by simp, hx, fun F' H' y fc' e k hy => ?_⟩
      have z := q F' H' y fc' e (fun a ha => k a (ha.elim (fun z => .inl (List.mem_append_right _ z)) .inr)) hy
      have z2 := Slots.cons (h.stay (H' := H') e fun a ha => k a (.inl (List.mem_append_left _ ha))) z
      simpa using z2
theorem Slots.app {l2 : List (Option V × Ent)} {fq : List Addr} (h : Slots K c F H l fp) (g : Slots K c F H l2 fq) : Slots K c F H (l ++ l2) (fp ++ fq) := by
  induction h with
  | nil => exact g
  | cons h t ih =>
    rw [List.cons_append, List.append_assoc]
    exact .cons h ih
theorem Slots.split {l1 l2 : List (Option V × Ent)} (h : Slots K c F H (l1 ++ l2) fp) : ∃ f1 f2, fp = f1 ++ f2 ∧ Slots K c F H l1 f1 ∧ Slots K c F H l2 f2 := by
  induction l1 generalizing fp with
  | nil => exact ⟨[], fp, rfl, .nil, h⟩
  | cons x l1 ih =>
    cases h with
    | @cons _ fc fq _ h t =>
      obtain ⟨f1, f2, rfl, a, b⟩ := ih t
      exact ⟨fc ++ f1, f2, by rw [List.append_assoc], .cons h a, b⟩
end

/-! ### the state of a body: slots, temporaries -/
abbrev Tm := List (V × Ent)
def tmp (T : Tm) : List (Option V × Ent) := T.map fun p => (some p.1, p.2)
structure RelF (K : PySem.W.Frag) (c : Ct) (σ : L2.St) (ρ : List Ent) (T : Tm) (H : Hp) (F : Hp) (fp : List Addr) : Prop where
  f0 : Same c.F0 F
  fh : Same F H
  new : ∀ a, F a ≠ none → c.F0 a ≠ none ∨ c.H0 a = none
  keep : ∀ a o, c.H0 a = some o → ¬ c.W a → H a = some o
  trk : ∀ a, c.H0 a ≠ none → H a ≠ none
  sl : Slots K c F H (tmp T ++ σ.zip ρ) fp
  nd : fp.Nodup
  own : ∀ a ∈ fp, F a = none ∧ (c.W a ∨ c.H0 a = none)
  len : σ.length = ρ.length
  pin : ∀ (i : Nat) (v : V), c.pins[i]? = some (some v) → σ[i]? = some (some v) ∧ ∃ e : Ent, ρ[i]? = some e ∧ pinE e = true
def Rel (K : PySem.W.Frag) (c : Ct) (σ : L2.St) (ρ : List Ent) (T : Tm) (H : Hp) : Prop := ∃ F fp, RelF K c σ ρ T H F fp
theorem zip_set' {α β : Type} : ∀ (xs : List α) (ys : List β) (i : Nat) (a : α) (b : β), (xs.set i a).zip (ys.set i b) = (xs.zip ys).set i (a, b)
  | [], ys, i, a, b => by simp
  | x :: xs, [], i, a, b => by cases i <;> simp
  | x :: xs, y :: ys, 0, a, b => rfl
  | x :: xs, y :: ys, i + 1, a, b => by
    show (x, y) :: (xs.set i a).zip (ys.set i b) = (x, y) :: (xs.zip ys).set i (a, b)
    rw [zip_set' xs ys i a b]
theorem zip_at {α β : Type} {xs : List α} {ys : List β} {i : Nat} {a : α} {b : β} (h : xs[i]? = some a) (g : ys[i]? = some b) : (xs.zip ys)[i]? = some (a, b) := by
  rw [List.getElem?_zip_eq_some]
  exact ⟨h, g⟩
section
variable {K : PySem.W.Frag} {c : Ct} {σ : L2.St} {ρ : List Ent} {T : Tm} {H F : Hp} {fp : List Addr} {v : V} {d : PyData} {e : Ent}
/-- a new object that is tracked -/
theorem Rel.fresh (h : Rel K c σ ρ T H) {p : Addr} (hp : H p = none) (o : HO) : Rel K c σ ρ T (upd H p o) := by
  obtain ⟨F, fp, r⟩ := h
  refine ⟨F, fp, r.f0, fun b u q => ?_, r.new, fun a u q w => ?_, fun a q => ?_, r.sl.stay (fun _ _ z => z) fun a ha => upd_ne fun z => ?_, r.nd, r.own, r.len, r.pin⟩
  · rw [upd_ne (ne_of_none (r.fh b u q) hp)]
    exact r.fh b u q
  · have z := r.keep a u q w
    rw [upd_ne (ne_of_none z hp)]
    exact z
  · have z := r.trk a q
    intro y
    by_cases hb : a = p
    · rw [hb, upd_same] at y
      cases y
    · rw [upd_ne hb] at y
      exact z y
  · rw [z] at ha
    exact r.sl.there p ha hp
/-- a temporary more: a value that is told by what is frozen -/
theorem RelF.push (r : RelF K c σ ρ T H F fp) (h : Rp K F v d) : RelF K c σ ρ ((v, .val d) :: T) H F fp :=
  ⟨r.f0, r.fh, r.new, r.keep, r.trk, .cons (.val h) r.sl, r.nd, r.own, r.len, r.pin⟩
theorem Rel.push (r : Rel K c σ ρ T H) (h : ∀ F, Rp K F v d) : Rel K c σ ρ ((v, .val d) :: T) H :=
  let ⟨F, fp, r⟩ := r
  ⟨F, fp, r.push (h F)⟩
theorem Rel.pushI (r : Rel K c σ ρ T H) (i : Int) : Rel K c σ ρ ((.int i, .val (.int i)) :: T) H := r.push fun _ => .int i
theorem Rel.pushB (r : Rel K c σ ρ T H) (b : Bool) : Rel K c σ ρ ((.bl b, .val (.bool b)) :: T) H := r.push fun _ => .bl b
theorem Rel.pushS (r : Rel K c σ ρ T H) (x : Str) : Rel K c σ ρ ((.str x, .val (.str x)) :: T) H := r.push fun _ => .str x
theorem Rel.pushN (r : Rel K c σ ρ T H) : Rel K c σ ρ ((.non, .val .none) :: T) H := r.push fun _ => .non
/-- what a temporary says -/
theorem RelF.top (r : RelF K c σ ρ ((v, .val d) :: T) H F fp) : Rp K F v d := by
  cases r.sl with
  | cons h t => cases h with | val q => exact q
theorem RelF.pop (r : RelF K c σ ρ ((v, e) :: T) H F fp) : ∃ fc fq, fp = fc ++ fq ∧ SlotOk K c F H (some v, e) fc ∧ RelF K c σ ρ T H F fq := by
  cases hsl : r.sl with
  | @cons _ fc fq _ h t =>
    exact ⟨fc, fq, rfl, h, r.f0, r.fh, r.new, r.keep, r.trk, t, (List.nodup_append.mp r.nd).2.1, fun a ha => r.own a (List.mem_append_right _ ha), r.len, r.pin⟩
theorem Rel.pop (r : Rel K c σ ρ ((v, e) :: T) H) : Rel K c σ ρ T H := by
  obtain ⟨F, fp, r⟩ := r
  obtain ⟨fc, fq, _, _, q⟩ := r.pop
  exact ⟨F, fq, q⟩
theorem Rel.drop {S : Tm} (r : Rel K c σ ρ (S ++ T) H) : Rel K c σ ρ T H := by
  induction S with
  | nil => exact r
  | cons p S ih => exact ih (Rel.pop (v := p.1) (e := p.2) r)
theorem RelF.popV (r : RelF K c σ ρ ((v, .val d) :: T) H F fp) : RelF K c σ ρ T H F fp := by
  obtain ⟨fc, fq, e, h, q⟩ := r.pop
  cases h
  rw [e]
  exact q
/-- a new tuple -/
theorem RelF.tupNew {xs : List V} {ds : List PyData} {p : Addr} (r : RelF K c σ ρ T H F fp) (hp : H p = none) (hx : Rps K F xs ds) : Rel K c σ ρ ((.ref p, .val (.tuple ds)) :: T) (upd H p (.tup xs)) := by
  have hF : F p = none := by
    cases q : F p with
    | none => rfl
    | some o =>
      have z := r.fh p o q
      rw [hp] at z
      cases z
  refine ⟨upd F p (.tup xs), fp, fun b u q => ?_, fun b u q => ?_, fun a q => ?_, fun a u q w => ?_, fun a q => ?_, .cons (.val (.tup (.inl (.inl upd_same)) (hx.mono fun b u q => ?_))) (r.sl.stay (fun b u q => ?_) fun a ha => upd_ne fun z => ?_), r.nd, fun a ha => ⟨?_, (r.own a ha).2⟩, r.len, r.pin⟩
  · have z := r.f0 b u q
    rw [upd_ne (ne_of_none z hF)]
    exact z
  · by_cases hb : b = p
    · rw [hb, upd_same] at q
      rw [hb, upd_same]
      exact q
    · rw [upd_ne hb] at q ⊢
      exact r.fh b u q
  · by_cases hb : a = p
    · right
      rw [hb]
      cases z : c.H0 p with
      | none => rfl
      | some o => exact absurd hp (r.trk p (by rw [z]; exact fun z => nomatch z))
    · rw [upd_ne hb] at q
      exact r.new a q
  · have z := r.keep a u q w
    rw [upd_ne (ne_of_none z hp)]
    exact z
  · intro y
    by_cases hb : a = p
    · rw [hb, upd_same] at y
      cases y
    · rw [upd_ne hb] at y
      exact r.trk a q y
  · rw [upd_ne (ne_of_none q hF)]
    exact q
  · rw [upd_ne (ne_of_none q hF)]
    exact q
  · rw [z] at ha
    exact r.sl.there p ha hp
  · rw [upd_ne fun z => r.sl.there p (by rw [← z]; exact ha) hp]
    exact (r.own a ha).1
theorem RelF.dctNewK {p : Addr} {vs : List (Key × V)} {kvs : List (PyData × PyData)} (r : RelF K c σ ρ T H F fp) (hk : Rpk K F vs kvs) (hp : H p = none) : Rel K c σ ρ ((.ref p, .val (.dict kvs)) :: T) (upd H p (.dK vs)) := by
  have hF : F p = none := by
    cases q : F p with
    | none => rfl
    | some o =>
      have z := r.fh p o q
      rw [hp] at z
      cases z
  refine ⟨upd F p (.dK vs), fp, fun b u q => ?_, fun b u q => ?_, fun a q => ?_, fun a u q w => ?_, fun a q => ?_, .cons (.val (.dct upd_same (hk.mono fun b u q => (upd_ne (ne_of_none q hF)).trans q))) (r.sl.stay (fun b u q => ?_) fun a ha => upd_ne fun z => ?_), r.nd, fun a ha => ⟨?_, (r.own a ha).2⟩, r.len, r.pin⟩
  · have z := r.f0 b u q
    rw [upd_ne (ne_of_none z hF)]
    exact z
  · by_cases hb : b = p
    · rw [hb, upd_same] at q
      rw [hb, upd_same]
      exact q
    · rw [upd_ne hb] at q ⊢
      exact r.fh b u q
  · by_cases hb : a = p
    · right
      rw [hb]
      cases z : c.H0 p with
      | none => rfl
      | some o => exact absurd hp (r.trk p (by rw [z]; exact fun z => nomatch z))
    · rw [upd_ne hb] at q
      exact r.new a q
  · have z := r.keep a u q w
    rw [upd_ne (ne_of_none z hp)]
    exact z
  · intro y
    by_cases hb : a = p
    · rw [hb, upd_same] at y
      cases y
    · rw [upd_ne hb] at y
      exact r.trk a q y
  · rw [upd_ne (ne_of_none q hF)]
    exact q
  · rw [z] at ha
    exact r.sl.there p ha hp
  · rw [upd_ne fun z => r.sl.there p (by rw [← z]; exact ha) hp]
    exact (r.own a ha).1
theorem RelF.dctNewV {p : Addr} (r : RelF K c σ ρ T H F fp) (hp : H p = none) : Rel K c σ ρ ((.ref p, .val (.dict [])) :: T) (upd H p (.dK [])) := r.dctNewK .nil hp
/-- a new cell, owned -/
theorem RelF.cellNew {ce : Cell} {o : HO} {p : Addr} (r : RelF K c σ ρ T H F fp) (hp : H p = none) (hx : CellAt K c.gn F (upd H p o) (.ref p) ce [p]) : Rel K c σ ρ ((.ref p, .own true ce) :: T) (upd H p o) := by
  have h0 : c.H0 p = none := by
    cases z : c.H0 p with
    | none => rfl
    | some o => exact absurd hp (r.trk p (by rw [z]; exact fun z => nomatch z))
  have hF : F p = none := by
    cases q : F p with
    | none => rfl
    | some o =>
      have z := r.fh p o q
      rw [hp] at z
      cases z
  have hn : ∀ a ∈ fp, a ≠ p := fun a ha z => r.sl.there p (z ▸ ha) hp
  refine ⟨F, [p] ++ fp, r.f0, fun b u q => ?_, r.new, fun a u q w => ?_, fun a q => ?_, .cons (.own hx fun _ a ha => ?_) (r.sl.stay (fun _ _ z => z) fun a ha => upd_ne (hn a ha)), ?_, fun a ha => ?_, r.len, r.pin⟩
  · rw [upd_ne (ne_of_none (r.fh b u q) hp)]
    exact r.fh b u q
  · have z := r.keep a u q w
    rw [upd_ne (ne_of_none z hp)]
    exact z
  · intro y
    by_cases hb : a = p
    · rw [hb, upd_same] at y
      cases y
    · rw [upd_ne hb] at y
      exact r.trk a q y
  · rw [List.mem_singleton.mp ha]
    exact h0
  · exact List.nodup_cons.mpr ⟨fun z => hn p z rfl, r.nd⟩
  · rcases List.mem_cons.mp ha with z | z
    · rw [z]
      exact ⟨hF, .inr h0⟩
    · exact r.own a z
theorem RelF.lstNew {xs : List V} {ds : List PyData} {p : Addr} (r : RelF K c σ ρ T H F fp) (hp : H p = none) (hx : Rps K F xs ds) : Rel K c σ ρ ((.ref p, .own true (.lst ds)) :: T) (upd H p (.lst xs)) := r.cellNew hp (.lst upd_same hx)
theorem RelF.dctNew {p : Addr} (r : RelF K c σ ρ T H F fp) (hp : H p = none) : Rel K c σ ρ ((.ref p, .own true (.dct [])) :: T) (upd H p (.dK [])) := r.cellNew hp (.dct upd_same rfl .nil)
/-- the top, an owned cell, opened -/
theorem RelF.opn {fr : Bool} {ce : Cell} (r : RelF K c σ ρ ((v, .own fr ce) :: T) H F fp) : ∃ fc fq, CellAt K c.gn F H v ce fc ∧ RelF K c σ ρ T H F fq ∧ (fr = true → ∀ a ∈ fc, c.H0 a = none) ∧ fp = fc ++ fq ∧
    ∀ (a : Addr) (o : HO) (ce' : Cell), a ∈ fc → CellAt K c.gn F (upd H a o) v ce' fc → Rel K c σ ρ ((v, .own fr ce') :: T) (upd H a o) := by
  obtain ⟨fc, fq, e, q, r1⟩ := r.pop
  cases q with
  | own rc hf =>
    refine ⟨fc, fq, rc, r1, hf, e, fun a o ce' ha hx => ?_⟩
    have hown := r.own a (by rw [e]; exact List.mem_append_left _ ha)
    have hnd := r.nd
    rw [e] at hnd
    have hn : ∀ b ∈ fq, b ≠ a := fun b hb z => (List.nodup_append.mp hnd).2.2 a ha b hb z.symm
    refine ⟨F, fc ++ fq, r1.f0, fun b u z => ?_, r1.new, fun b u z w => ?_, fun b z => ?_, .cons (.own hx hf) (r1.sl.stay (fun _ _ z => z) fun b hb => upd_ne (hn b hb)), hnd, fun b hb => r.own b (by rw [e]; exact hb), r1.len, r1.pin⟩
    · rw [upd_ne (ne_of_none z hown.1)]
      exact r1.fh b u z
    · have y := r1.keep b u z w
      by_cases hb : b = a
      · subst hb
        rcases hown.2 with k | k
        · exact absurd k w
        · rw [k] at z
          cases z
      · rw [upd_ne hb]
        exact y
    · intro y
      by_cases hb : b = a
      · rw [hb, upd_same] at y
        cases y
      · rw [upd_ne hb] at y
        exact r1.trk b z y
/-- an owned new list becomes data -/
theorem Rel.freeze {ds : List PyData} (r : Rel K c σ ρ ((v, .own true (.lst ds)) :: T) H) : Rel K c σ ρ ((v, .val (.list ds)) :: T) H := by
  obtain ⟨F, fp, r⟩ := r
  obtain ⟨fc, fq, e, h, q⟩ := r.pop
  cases h with
  | own rc hf =>
    cases rc with
    | @lst a vs _ ha rs =>
      have hFa : F a = none := (r.own a (by rw [e]; exact List.mem_append_left _ (List.mem_singleton.mpr rfl))).1
      have hnd := r.nd
      rw [e] at hnd
      have hn : ∀ b ∈ fq, b ≠ a := fun b hb z => (List.nodup_cons.mp hnd).1 (z ▸ hb)
      have sm : Same F (upd F a (.lst vs)) := fun b u z => by
        rw [upd_ne (ne_of_none z hFa)]
        exact z
      refine ⟨upd F a (.lst vs), fq, q.f0.trans sm, fun b u z => ?_, fun b z => ?_, q.keep, q.trk, .cons (.val (.lst upd_same (rs.mono sm))) (q.sl.stay sm fun _ _ => rfl), q.nd, fun b hb => ⟨?_, (q.own b hb).2⟩, q.len, q.pin⟩
      · by_cases hb : b = a
        · rw [hb, upd_same] at z
          rw [hb, ha]
          exact z
        · rw [upd_ne hb] at z
          exact q.fh b u z
      · by_cases hb : b = a
        · rw [hb]
          exact .inr (hf rfl a (List.mem_singleton.mpr rfl))
        · rw [upd_ne hb] at z
          exact q.new b z
      · rw [upd_ne (hn b hb)]
        exact (q.own b hb).1
/-- the top two temporaries change places -/
theorem Rel.swap {p q : V × Ent} (r : Rel K c σ ρ (p :: q :: T) H) : Rel K c σ ρ (q :: p :: T) H := by
  obtain ⟨F, fp, r⟩ := r
  obtain ⟨f1, fr, e1, h1, r1⟩ := RelF.pop (v := p.1) (e := p.2) r
  obtain ⟨f2, fs, e2, h2, r2⟩ := RelF.pop (v := q.1) (e := q.2) r1
  subst e1 e2
  have pm : (f2 ++ (f1 ++ fs)).Perm (f1 ++ (f2 ++ fs)) := by
    rw [← List.append_assoc, ← List.append_assoc]
    exact List.Perm.append_right _ List.perm_append_comm
  exact ⟨F, f2 ++ (f1 ++ fs), r.f0, r.fh, r.new, r.keep, r.trk, .cons h2 (.cons h1 r2.sl), pm.nodup_iff.mpr r.nd, fun a ha => r.own a (pm.mem_iff.mp ha), r.len, r.pin⟩
/-- a slot is written -/
theorem RelF.putG {i : Nat} (r : RelF K c σ ρ ((v, e) :: T) H F fp) (hp : ∀ w, c.pins[i]? = some (some w) → w = v ∧ pinE e = true) : Rel K c (σ.set i (some v)) (ρ.set i e) T H := by
  obtain ⟨fc, fq, e1, h, q⟩ := r.pop
  subst e1
  have hpin : ∀ (j : Nat) (w : V), c.pins[j]? = some (some w) → (σ.set i (some v))[j]? = some (some w) ∧ ∃ e0 : Ent, (ρ.set i e)[j]? = some e0 ∧ pinE e0 = true := fun j w z => by
    obtain ⟨z1, e0, z2, z3⟩ := r.pin j w z
    by_cases hj : i = j
    · subst hj
      obtain ⟨y1, y2⟩ := hp w z
      rw [List.getElem?_set_self (List.getElem?_eq_some_iff.mp z1).1, List.getElem?_set_self (List.getElem?_eq_some_iff.mp z2).1, y1]
      exact ⟨rfl, e, rfl, y2⟩
    · rw [List.getElem?_set_ne hj, List.getElem?_set_ne hj]
      exact ⟨z1, e0, z2, z3⟩
  by_cases hi : i < σ.length
  · obtain ⟨f1, fo, f2, e2, f3, f4⟩ := Slots.place (i := T.length + i) q.sl (x := (σ[i], ρ[i]'(q.len ▸ hi))) (by
      rw [List.getElem?_append_right (by simp [tmp])]
      simp only [tmp, List.length_map, Nat.add_sub_cancel_left]
      exact zip_at (List.getElem?_eq_getElem hi) (List.getElem?_eq_getElem _))
    subst e2
    have z := f4 F H (some v, e) fc (fun _ _ z => z) (fun _ _ => rfl) h
    rw [List.set_append_right _ _ (by simp [tmp])] at z
    simp only [tmp, List.length_map, Nat.add_sub_cancel_left, ← zip_set'] at z
    have sub : (f1 ++ (fc ++ f2)).Nodup ∧ ∀ a ∈ f1 ++ (fc ++ f2), a ∈ fc ++ (f1 ++ (fo ++ f2)) := by
      have nd := r.nd
      refine ⟨?_, fun a ha => ?_⟩
      · have p1 : (f1 ++ (fc ++ f2)).Perm (fc ++ (f1 ++ f2)) := by
          rw [← List.append_assoc, ← List.append_assoc]
          exact List.Perm.append_right _ List.perm_append_comm
        refine p1.nodup_iff.mpr (nd.sublist ?_)
        exact List.Sublist.append_left (List.Sublist.append_left (List.sublist_append_right _ _) _) _
      · simp only [List.mem_append] at ha ⊢
        rcases ha with z | z | z
        · exact .inr (.inl z)
        · exact .inl z
        · exact .inr (.inr (.inr z))
    exact ⟨F, f1 ++ (fc ++ f2), q.f0, q.fh, q.new, q.keep, q.trk, z, sub.1, fun a ha => r.own a (sub.2 a ha), by rw [List.length_set, List.length_set]; exact q.len, hpin⟩
  · have hρ : ¬ i < ρ.length := by rw [← q.len]; exact hi
    rw [List.set_eq_of_length_le (by omega), List.set_eq_of_length_le (by omega)]
    exact ⟨F, fq, q⟩
/-- may the slot be written? -/
def freeE (ρ : List Ent) (i : Nat) : Bool := match ρ[i]? with
  | some e => !pinE e
  | none => true
theorem Rel.put {i : Nat} (r : Rel K c σ ρ ((v, e) :: T) H) (hp : freeE ρ i = true) : Rel K c (σ.set i (some v)) (ρ.set i e) T H := by
  obtain ⟨F, fp, r⟩ := r
  refine r.putG fun w z => ?_
  obtain ⟨_, e0, z2, z3⟩ := r.pin i w z
  unfold freeE at hp
  rw [z2] at hp
  simp only [z3, Bool.not_true] at hp
  cases hp
theorem set_id {i : Nat} (hv : σ[i]? = some (some v)) : σ.set i (some v) = σ := by
  refine List.ext_getElem? fun j => ?_
  by_cases hj : i = j
  · subst hj
    rw [List.getElem?_set_self (List.getElem?_eq_some_iff.mp hv).1, hv]
  · rw [List.getElem?_set_ne hj]
/-- a slot becomes a temporary -/
theorem Rel.take {i : Nat} (r : Rel K c σ ρ T H) (hv : σ[i]? = some (some v)) (he : ρ[i]? = some e) : Rel K c σ (ρ.set i .lent) ((v, e) :: T) H := by
  obtain ⟨F, fp, r⟩ := r
  obtain ⟨f1, fc, f2, e2, f3, f4⟩ := Slots.place (i := T.length + i) r.sl (x := (some v, e)) (by
    rw [List.getElem?_append_right (by simp [tmp])]
    simp only [tmp, List.length_map, Nat.add_sub_cancel_left]
    exact zip_at hv he)
  subst e2
  have z := f4 F H (some v, .lent) [] (fun _ _ z => z) (fun _ _ => rfl) (.lent _)
  rw [List.set_append_right _ _ (by simp [tmp])] at z
  simp only [tmp, List.length_map, Nat.add_sub_cancel_left, ← zip_set', List.nil_append] at z
  rw [set_id hv] at z
  have pm : (fc ++ (f1 ++ f2)).Perm (f1 ++ (fc ++ f2)) := by
    rw [← List.append_assoc, ← List.append_assoc]
    exact List.Perm.append_right _ List.perm_append_comm
  refine ⟨F, fc ++ (f1 ++ f2), r.f0, r.fh, r.new, r.keep, r.trk, .cons f3 z, pm.nodup_iff.mpr r.nd, fun a ha => r.own a (pm.mem_iff.mp ha), by rw [List.length_set]; exact r.len, fun j w y => ?_⟩
  obtain ⟨z1, e0, z2, z3⟩ := r.pin j w y
  refine ⟨z1, ?_⟩
  by_cases hj : i = j
  · subst hj
    exact ⟨.lent, List.getElem?_set_self (List.getElem?_eq_some_iff.mp z2).1, rfl⟩
  · exact ⟨e0, by rw [List.getElem?_set_ne hj]; exact z2, z3⟩
/-- and back -/
theorem Rel.back {i : Nat} (r : Rel K c σ ρ ((v, e) :: T) H) (hv : σ[i]? = some (some v)) (hp : ∀ w, c.pins[i]? = some (some w) → pinE e = true) : Rel K c σ (ρ.set i e) T H := by
  obtain ⟨F, fp, r⟩ := r
  have q := r.putG (i := i) fun w z => ⟨by
    have := (r.pin i w z).1
    rw [hv] at this
    cases this
    rfl, hp w z⟩
  rw [set_id hv] at q
  exact q
theorem Rel.pinned {i : Nat} {w : V} (r : Rel K c σ ρ T H) (z : c.pins[i]? = some (some w)) (he : ρ[i]? = some e) : pinE e = true := by
  obtain ⟨F, fp, r⟩ := r
  obtain ⟨_, e0, z2, z3⟩ := r.pin i w z
  rw [he] at z2
  cases z2
  exact z3
/-- what a slot says -/
theorem Rel.slot {i : Nat} (r : Rel K c σ ρ T H) (he : ρ[i]? = some (.val d)) : ∃ v, σ[i]? = some (some v) ∧ Rel K c σ ρ ((v, .val d) :: T) H := by
  obtain ⟨F, fp, r⟩ := r
  have hi : i < σ.length := by
    rw [r.len]
    exact (List.getElem?_eq_some_iff.mp he).1
  obtain ⟨f1, fc, f2, e2, f3, f4⟩ := Slots.place (i := T.length + i) r.sl (x := (σ[i], .val d)) (by
    rw [List.getElem?_append_right (by simp [tmp])]
    simp only [tmp, List.length_map, Nat.add_sub_cancel_left]
    exact zip_at (List.getElem?_eq_getElem hi) he)
  generalize hs : σ[i] = s at f3
  cases f3 with
  | @val v _ q => exact ⟨v, by rw [List.getElem?_eq_getElem hi, hs], F, fp, r.push q⟩
/-- an owned slot has a value -/
theorem Rel.ownv {i : Nat} {fr : Bool} {ce : Cell} (r : Rel K c σ ρ T H) (he : ρ[i]? = some (.own fr ce)) : ∃ v, σ[i]? = some (some v) := by
  obtain ⟨F, fp, r⟩ := r
  have hi : i < σ.length := by
    rw [r.len]
    exact (List.getElem?_eq_some_iff.mp he).1
  obtain ⟨f1, fc, f2, e2, f3, f4⟩ := Slots.place (i := T.length + i) r.sl (x := (σ[i], .own fr ce)) (by
    rw [List.getElem?_append_right (by simp [tmp])]
    simp only [tmp, List.length_map, Nat.add_sub_cancel_left]
    exact zip_at (List.getElem?_eq_getElem hi) he)
  generalize hs : σ[i] = s at f3
  cases f3 with
  | @own v _ _ _ q _ => exact ⟨v, by rw [List.getElem?_eq_getElem hi, hs]⟩
/-- the top, an owned list, is written -/
theorem Rel.write {fr : Bool} {ds ds' : List PyData} (g : List V → List V) (r : Rel K c σ ρ ((v, .own fr (.lst ds)) :: T) H) (h : ∀ F fp vs, RelF K c σ ρ T H F fp → Rps K F vs ds → Rps K F (g vs) ds') :
    ∃ a vs, v = .ref a ∧ H a = some (.lst vs) ∧ vs.length = ds.length ∧ Rel K c σ ρ ((v, .own fr (.lst ds')) :: T) (upd H a (.lst (g vs))) := by
  obtain ⟨F, fp, r⟩ := r
  obtain ⟨fc, fq, e, q, r1⟩ := r.pop
  cases q with
  | own rc hf =>
    cases rc with
    | @lst a vs _ ha rs =>
      have hown := r.own a (by rw [e]; exact List.mem_append_left _ (List.mem_singleton.mpr rfl))
      have hnd := r.nd
      rw [e] at hnd
      have hn : ∀ b ∈ fq, b ≠ a := fun b hb z => (List.nodup_cons.mp hnd).1 (z ▸ hb)
      refine ⟨a, vs, rfl, ha, rs.length, F, [a] ++ fq, r1.f0, fun b u z => ?_, r1.new, fun b u z w => ?_, fun b z => ?_, .cons (.own (.lst upd_same (h F fq vs r1 rs)) hf) (r1.sl.stay (fun _ _ z => z) fun b hb => upd_ne (hn b hb)), hnd, fun b hb => r.own b (by rw [e]; exact hb), r1.len, r1.pin⟩
      · rw [upd_ne (ne_of_none z hown.1)]
        exact r1.fh b u z
      · have y := r1.keep b u z w
        by_cases hb : b = a
        · subst hb
          rcases hown.2 with k | k
          · exact absurd k w
          · rw [k] at z
            cases z
        · rw [upd_ne hb]
          exact y
      · intro y
        by_cases hb : b = a
        · rw [hb, upd_same] at y
          cases y
        · rw [upd_ne hb] at y
          exact r1.trk b z y
theorem Slots.permute {l l' : List (Option V × Ent)} (hp : l.Perm l') : ∀ {fp : List Addr}, Slots K c F H l fp → ∃ fq, fq.Perm fp ∧ Slots K c F H l' fq := by
  induction hp with
  | nil => exact fun h => ⟨_, .refl _, h⟩
  | cons x _ ih =>
    intro fp h
    cases h with
    | cons h t =>
      obtain ⟨fq, pm, q⟩ := ih t
      exact ⟨_, pm.append_left _, .cons h q⟩
  | swap x y l =>
    intro fp h
    cases h with
    | @cons _ f1 _ _ h1 t1 =>
      cases t1 with
      | @cons _ f2 f3 _ h2 t2 =>
        refine ⟨f2 ++ (f1 ++ f3), ?_, .cons h2 (.cons h1 t2)⟩
        rw [← List.append_assoc, ← List.append_assoc]
        exact List.Perm.append_right _ List.perm_append_comm
  | trans _ _ ih1 ih2 =>
    intro fp h
    obtain ⟨fq, pm, q⟩ := ih1 h
    obtain ⟨fr, pm2, q2⟩ := ih2 q
    exact ⟨fr, pm2.trans pm, q2⟩
/-- temporaries in another order -/
theorem Rel.perm {T' : Tm} (r : Rel K c σ ρ T H) (hp : T.Perm T') : Rel K c σ ρ T' H := by
  obtain ⟨F, fp, r⟩ := r
  obtain ⟨fq, pm, q⟩ := Slots.permute ((hp.map fun p => (some p.1, p.2)).append_right (σ.zip ρ)) r.sl
  exact ⟨F, fq, r.f0, r.fh, r.new, r.keep, r.trk, q, pm.nodup_iff.mpr r.nd, fun a ha => r.own a (pm.mem_iff.mp ha), r.len, r.pin⟩
/-- what the top, an owned list, says -/
theorem RelF.lstTop {fr : Bool} {ds : List PyData} (r : RelF K c σ ρ ((v, .own fr (.lst ds)) :: T) H F fp) : ∃ a vs, v = .ref a ∧ H a = some (.lst vs) ∧ Rps K F vs ds := by
  obtain ⟨fc, fq, e, q, r1⟩ := r.pop
  cases q with
  | own rc hf =>
    cases rc with
    | @lst a vs _ ha rs => exact ⟨a, vs, rfl, ha, rs⟩
end
end Fj

set_option Elab.async false
set_option linter.all false
set_option maxRecDepth 100000
set_option maxHeartbeats 4000000
set_option autoImplicit false
/-! Judgements over a family of contexts: what an expression's mirror says. -/
namespace Fj
open PySem PySem.Spec PyProof.Rows L2

/-- contexts that differ in what the text does not say -/
structure Fam where
  I : Type
  X : I → Cx
  P : Program
  w : World
  K : PySem.W.Frag
  mg : Str → Option Value
  base : Heap
  k : Nat
  hP : ∀ i, (X i).prog = P
  hw : ∀ i, (X i).w = w
  hK : ∀ i, (X i).K = K
  hmg : ∀ i, (X i).mg = mg
  hbase : ∀ i, (X i).base = base
  calm : ∀ i, (X i).calm = true
  gd : ∀ i, (X i).A.guards = some []
  room : ∀ i, Room k (X i).A
/-- a comprehension's block -/
def Fam.blk (Y : Fam) (scope : Scope) : Fam where
  I := Y.I × Shared × Hp × Addr × List (Str × Addr) × List Addr
  X := fun i => (Y.X i.1).blk i.2.1 i.2.2.1 scope (compEnvC scope i.2.2.2.2.1 i.2.2.2.1 (Y.X i.1).env) i.2.2.2.2.2
  P := Y.P
  w := Y.w
  K := Y.K
  mg := Y.mg
  base := Y.base
  k := Y.k
  hP := fun i => Y.hP i.1
  hw := fun i => Y.hw i.1
  hK := fun i => Y.hK i.1
  hmg := fun i => Y.hmg i.1
  hbase := fun i => Y.hbase i.1
  calm := fun i => Y.calm i.1
  gd := fun i => Y.gd i.1
  room := fun i => Y.room i.1

abbrev En := List Ent
abbrev MV := En → Option (PyData × En)
abbrev MO := En → Option (Ent × En)
abbrev MT := En → Option (Bool × En)
def PostV (K : PySem.W.Frag) (c : Ct) (σ : L2.St) (T : Tm) (r : Option (PyData × En)) (Q : VK) : Prop := match r with
  | none => False
  | some (d, ρ) => ∀ v H, Rel K c σ ρ ((v, .val d) :: T) H → Q v H
def PostO (K : PySem.W.Frag) (c : Ct) (σ : L2.St) (T : Tm) (r : Option (Ent × En)) (Q : VK) : Prop := match r with
  | none => False
  | some (e, ρ) => ∀ v H, Rel K c σ ρ ((v, e) :: T) H → Q v H
def PostT (K : PySem.W.Frag) (c : Ct) (σ : L2.St) (T : Tm) (r : Option (Bool × En)) (Q : Bool → Hp → Prop) : Prop := match r with
  | none => False
  | some (b, ρ) => ∀ H, Rel K c σ ρ T H → Q b H
def SemV (K : PySem.W.Frag) (t : TE) (m : MV) : Prop := ∀ (c : Ct) (σ : L2.St) (ρ : En) (T : Tm) (H : Hp) (Q : VK), Rel K c σ ρ T H → PostV K c σ T (m ρ) Q → t σ H Q
def SemO (K : PySem.W.Frag) (t : TE) (m : MO) : Prop := ∀ (c : Ct) (σ : L2.St) (ρ : En) (T : Tm) (H : Hp) (Q : VK), Rel K c σ ρ T H → PostO K c σ T (m ρ) Q → t σ H Q
def SemT (K : PySem.W.Frag) (t : TT) (m : MT) : Prop := ∀ (c : Ct) (σ : L2.St) (ρ : En) (T : Tm) (H : Hp) (Q : Bool → Hp → Prop), Rel K c σ ρ T H → PostT K c σ T (m ρ) Q → t σ H Q
def JV (Y : Fam) (e : Expr) (m : MV) : Prop := ∃ t, (∀ i, PE (Y.X i) e t) ∧ SemV Y.K t m
def JO (Y : Fam) (e : Expr) (m : MO) : Prop := ∃ t, (∀ i, PE (Y.X i) e t) ∧ SemO Y.K t m
def JT (Y : Fam) (e : Expr) (m : MT) : Prop := ∃ t, (∀ i, PT (Y.X i) e t) ∧ SemT Y.K t m

/-! ### plain expressions -/
def mC (d : PyData) : MV := fun ρ => some (d, ρ)
def mVar (i : Nat) : MV := fun ρ => match ρ[i]? with
  | some (.val d) => some (d, ρ)
  | _ => none
/-- an owned list is given up to the data -/
def fz : Ent → Option PyData
  | .val d => some d
  | .own true (.lst ds) => some (.list ds)
  | _ => none
def mFz (m : MO) : MV := fun ρ => match m ρ with
  | some (e, ρ) => (fz e).map fun d => (d, ρ)
  | none => none
def mVal (m : MV) : MO := fun ρ => (m ρ).map fun p => (.val p.1, p.2)
section
variable {Y : Fam} {e a b c0 : Expr} {pos : Pos}
theorem Rel.fz {K : PySem.W.Frag} {c : Ct} {σ : L2.St} {ρ : En} {T : Tm} {H : Hp} {v : V} {e : Ent} {d : PyData} (h : fz e = some d) (r : Rel K c σ ρ ((v, e) :: T) H) : Rel K c σ ρ ((v, .val d) :: T) H := by
  unfold Fj.fz at h
  split at h
  · cases h
    exact r
  · cases h
    exact r.freeze
  · cases h
theorem j_fz {m : MO} (h : JO Y e m) : JV Y e (mFz m) := by
  obtain ⟨t, p, s⟩ := h
  refine ⟨t, p, fun c σ ρ T H Q r q => s c σ ρ T H Q r ?_⟩
  unfold mFz at q
  cases hm : m ρ with
  | none =>
    rw [hm] at q
    exact q
  | some z =>
    obtain ⟨e0, ρ1⟩ := z
    rw [hm] at q
    simp only at q
    cases hf : fz e0 with
    | none =>
      rw [hf] at q
      exact False.elim q
    | some d =>
      rw [hf] at q
      exact fun v H1 r1 => q v H1 (r1.fz hf)
theorem j_val {m : MV} (h : JV Y e m) : JO Y e (mVal m) := by
  obtain ⟨t, p, s⟩ := h
  refine ⟨t, p, fun c σ ρ T H Q r q => s c σ ρ T H Q r ?_⟩
  unfold mVal at q
  cases hm : m ρ with
  | none =>
    rw [hm] at q
    exact q
  | some z =>
    rw [hm] at q
    exact q
theorem j_var (i : Nat) {x : Str} (hN : ∀ j, (Y.X j).N[i]? = some x := by intro _; rfl) (hv : ∀ j, Vis (Y.X j).env.scope x := by first | exact fun _ => Or.inl rfl | exact fun _ => Or.inr (Or.inl rfl) | exact fun _ => Or.inr (Or.inr rfl)) (hd : (x == ("__debug__" : Str)) = false := by decide)
    (hcd : (x == ("__classdict__" : Str)) = false := by decide) : JV Y (.Name x pos) (mVar i) := by
  refine ⟨tVar i, fun j => pe_var (hN j) (hv j) hd hcd, fun c σ ρ T H Q r q => ?_⟩
  unfold mVar at q
  split at q
  · rename_i d he
    obtain ⟨v, hv, r1⟩ := r.slot he
    exact ⟨v, hv, q v H r1⟩
  · exact q.elim
theorem j_int {i : Int} {j : Nat} : JV Y (.Constant (.int i) j pos) (mC (.int i)) := ⟨tC (.int i), fun _ => pe_int, fun _ _ _ _ H _ r q => q _ H (r.pushI i)⟩
theorem j_bool {b : Bool} {j : Nat} : JV Y (.Constant (.bool b) j pos) (mC (.bool b)) := ⟨tC (.bl b), fun _ => pe_bl, fun _ _ _ _ H _ r q => q _ H (r.pushB b)⟩
theorem j_str {x : Str} {j : Nat} : JV Y (.Constant (.str x) j pos) (mC (.str x)) := ⟨tC (.str x), fun _ => pe_str, fun _ _ _ _ H _ r q => q _ H (r.pushS x)⟩
theorem j_none {j : Nat} : JV Y (.Constant .none j pos) (mC .none) := ⟨tC .non, fun _ => pe_non, fun _ _ _ _ H _ r q => q _ H r.pushN⟩
/-- a constant of the module -/
theorem j_glob {x : Str} {v : V} {u : Value} {d : PyData} (hm : Y.mg x = some u) (rv : RelV v u) (hr : ∀ F, Rp Y.K F v d) (hg : ∀ j, Gl (Y.X j) x := by intro _; rfl) (hd : (x == ("__debug__" : Str)) = false := by decide) : JV Y (.Name x pos) (mC d) :=
  ⟨tC v, fun j => pe_glob (hg j) (by rw [Y.hmg j]; exact hm) rv hd, fun _ _ _ _ H _ r q => q _ H (r.push hr)⟩

/-! ### operations of two values -/
def OpJ (Y : Fam) (f : Value → Value → Sem Value) (g : PyData → PyData → Option PyData) : Prop := ∃ r : R2, (∀ j, OpR (Y.X j) f r) ∧
  ∀ (c : Ct) (σ : L2.St) (ρ : En) (T : Tm) (H : Hp) (x y : V) (dx dy z : PyData) (Q : VK), Rel Y.K c σ ρ ((y, .val dy) :: (x, .val dx) :: T) H → g dx dy = some z → (∀ v H', Rel Y.K c σ ρ ((v, .val z) :: T) H' → Q v H') → r x y H Q
def mBin (g : PyData → PyData → Option PyData) (ma mb : MV) : MV := fun ρ => match ma ρ with
  | none => none
  | some (x, ρ) => match mb ρ with
    | none => none
    | some (y, ρ) => (g x y).map fun z => (z, ρ)
theorem OpJ.or {f : Value → Value → Sem Value} {g g' : PyData → PyData → Option PyData} (h : OpJ Y f g) (h' : OpJ Y f g') : OpJ Y f (fun x y => (g x y).or (g' x y)) := by
  obtain ⟨r, o, s⟩ := h
  obtain ⟨r', o', s'⟩ := h'
  refine ⟨_, fun j => OpR.or (o j) (o' j), fun c σ ρ T H x y dx dy z Q re e q => ?_⟩
  cases hg : g dx dy with
  | some w =>
    simp only [hg, Option.or] at e
    cases e
    exact .inl (s c σ ρ T H x y dx dy _ Q re hg q)
  | none =>
    simp only [hg, Option.or] at e
    exact .inr (s' c σ ρ T H x y dx dy z Q re e q)
/-- the common reading of two operands -/
theorem sem_bin {K : PySem.W.Frag} {ta tb : TE} {ma mb : MV} (sa : SemV K ta ma) (sb : SemV K tb mb) {c : Ct} {σ : L2.St} {ρ : En} {T : Tm} {H : Hp} {R : V → V → Hp → Prop} (r : Rel K c σ ρ T H)
    (q : ∃ x ρ1 y ρ2, ma ρ = some (x, ρ1) ∧ mb ρ1 = some (y, ρ2) ∧ ∀ vx vy H2, Rel K c σ ρ2 ((vy, .val y) :: (vx, .val x) :: T) H2 → R vx vy H2) : ta σ H fun vx H1 => tb σ H1 fun vy H2 => R vx vy H2 := by
  obtain ⟨x, ρ1, y, ρ2, e1, e2, q⟩ := q
  refine sa c σ ρ T H _ r ?_
  rw [e1]
  intro vx H1 r1
  refine sb c σ ρ1 _ H1 _ r1 ?_
  rw [e2]
  exact fun vy H2 r2 => q vx vy H2 r2
theorem bin_inv {g : PyData → PyData → Option PyData} {ma mb : MV} {K : PySem.W.Frag} {c : Ct} {σ : L2.St} {ρ : En} {T : Tm} {Q : VK} (q : PostV K c σ T (mBin g ma mb ρ) Q) :
    ∃ x ρ1 y ρ2 z, ma ρ = some (x, ρ1) ∧ mb ρ1 = some (y, ρ2) ∧ g x y = some z ∧ ∀ v H, Rel K c σ ρ2 ((v, .val z) :: T) H → Q v H := by
  unfold mBin at q
  split at q
  · exact q.elim
  · rename_i x ρ1 e1
    split at q
    · exact q.elim
    · rename_i y ρ2 e2
      cases hg : g x y with
      | none =>
        rw [hg] at q
        exact q.elim
      | some z =>
        rw [hg] at q
        exact ⟨x, ρ1, y, ρ2, z, e1, e2, hg, q⟩
theorem j_bin {op : Operator} {g : PyData → PyData → Option PyData} {ma mb : MV} (ho : OpJ Y (binaryOp op) g) (ha : JV Y a ma) (hb : JV Y b mb) : JV Y (.BinOp a op b pos) (mBin g ma mb) := by
  obtain ⟨r, o, s⟩ := ho
  obtain ⟨ta, pa, sa⟩ := ha
  obtain ⟨tb, pb, sb⟩ := hb
  refine ⟨tOp r ta tb, fun j => pe_op (o j) (pa j) (pb j), fun c σ ρ T H Q re q => ?_⟩
  obtain ⟨x, ρ1, y, ρ2, z, e1, e2, hg, q⟩ := bin_inv q
  exact sem_bin sa sb re ⟨x, ρ1, y, ρ2, e1, e2, fun vx vy H2 r2 => s c σ ρ2 T H2 vx vy x y z Q r2 hg q⟩
theorem j_cmp {op : CmpOp} {g : PyData → PyData → Option PyData} {ma mb : MV} (ho : OpJ Y (compareOp op) g) (ha : JV Y a ma) (hb : JV Y b mb) (hm : behindInMarks op b = false := by first | exact nomark _ | rfl) : JV Y (.Compare a [op] [b] pos) (mBin g ma mb) := by
  obtain ⟨r, o, s⟩ := ho
  obtain ⟨ta, pa, sa⟩ := ha
  obtain ⟨tb, pb, sb⟩ := hb
  refine ⟨tOp r ta tb, fun j => pe_cmpR (o j) (pa j) (pb j) hm, fun c σ ρ T H Q re q => ?_⟩
  obtain ⟨x, ρ1, y, ρ2, z, e1, e2, hg, q⟩ := bin_inv q
  exact sem_bin sa sb re ⟨x, ρ1, y, ρ2, e1, e2, fun vx vy H2 r2 => s c σ ρ2 T H2 vx vy x y z Q r2 hg q⟩
/-- a value that is a truth value, as a test -/
def mTest (m : MV) : MT := fun ρ => match m ρ with
  | some (.bool b, ρ) => some (b, ρ)
  | _ => none
theorem test_inv {m : MV} {K : PySem.W.Frag} {c : Ct} {σ : L2.St} {ρ : En} {T : Tm} {Q : Bool → Hp → Prop} (q : PostT K c σ T (mTest m ρ) Q) : ∃ b ρ1, m ρ = some (.bool b, ρ1) ∧ ∀ H, Rel K c σ ρ1 T H → Q b H := by
  unfold mTest at q
  split at q
  · rename_i b ρ1 e
    exact ⟨b, ρ1, e, q⟩
  · exact q.elim
theorem Rel.boolTop {K : PySem.W.Frag} {c : Ct} {σ : L2.St} {ρ : En} {T : Tm} {H : Hp} {v : V} {b : Bool} (r : Rel K c σ ρ ((v, .val (.bool b)) :: T) H) : v = .bl b := by
  obtain ⟨F, fp, r⟩ := r
  cases r.top
  rfl
theorem Rel.intTop {K : PySem.W.Frag} {c : Ct} {σ : L2.St} {ρ : En} {T : Tm} {H : Hp} {v : V} {b : Int} (r : Rel K c σ ρ ((v, .val (.int b)) :: T) H) : v = .int b := by
  obtain ⟨F, fp, r⟩ := r
  cases r.top
  rfl
theorem Rel.strTop {K : PySem.W.Frag} {c : Ct} {σ : L2.St} {ρ : En} {T : Tm} {H : Hp} {v : V} {b : Str} (r : Rel K c σ ρ ((v, .val (.str b)) :: T) H) : v = .str b := by
  obtain ⟨F, fp, r⟩ := r
  cases r.top
  rfl
theorem Rel.nonTop {K : PySem.W.Frag} {c : Ct} {σ : L2.St} {ρ : En} {T : Tm} {H : Hp} {v : V} (r : Rel K c σ ρ ((v, .val .none) :: T) H) : v = .non := by
  obtain ⟨F, fp, r⟩ := r
  cases r.top
  rfl
theorem t_cmp {op : CmpOp} {g : PyData → PyData → Option PyData} {ma mb : MV} (ho : OpJ Y (compareOp op) g) (ha : JV Y a ma) (hb : JV Y b mb) (hm : behindInMarks op b = false := by first | exact nomark _ | rfl) : JT Y (.Compare a [op] [b] pos) (mTest (mBin g ma mb)) := by
  obtain ⟨r, o, s⟩ := ho
  obtain ⟨ta, pa, sa⟩ := ha
  obtain ⟨tb, pb, sb⟩ := hb
  refine ⟨_, fun j => pt_cmpR (o j) (pa j) (pb j) hm, fun c σ ρ T H Q re q => ?_⟩
  obtain ⟨b0, ρ2, e, q⟩ := test_inv q
  have q' : PostV Y.K c σ T (mBin g ma mb ρ) (fun x H' => ∃ k, x = .bl k ∧ Q k H') := by
    rw [e]
    exact fun v H1 r1 => ⟨b0, r1.boolTop, q H1 r1.pop⟩
  obtain ⟨x, ρ1, y, ρ2, z, e1, e2, hg, q⟩ := bin_inv q'
  exact sem_bin sa sb re ⟨x, ρ1, y, ρ2, e1, e2, fun vx vy H2 r2 => s c σ ρ2 T H2 vx vy x y z _ r2 hg q⟩
theorem t_val {m : MV} (h : JV Y e m) (he : ∀ j whole, isTrue e (Y.X j).env whole = (do let v ← whole; standAt e.pos; holding [v] (truthy v)) := by intro _ _; rfl) : JT Y e (mTest m) := by
  obtain ⟨t, p, s⟩ := h
  refine ⟨tB t, fun j => pt_val (p j) (he j), fun c σ ρ T H Q re q => ?_⟩
  obtain ⟨b0, ρ2, e, q⟩ := test_inv q
  refine s c σ ρ T H _ re ?_
  rw [e]
  exact fun v H1 r1 => ⟨b0, r1.boolTop, q H1 r1.pop⟩

/-! ### not, and, or, if else -/
def mTNot (m : MT) : MT := fun ρ => (m ρ).map fun p => (!p.1, p.2)
def mTAnd (m n : MT) : MT := fun ρ => match m ρ with
  | none => none
  | some (true, ρ) => n ρ
  | some (false, ρ) => some (false, ρ)
def mTOr (m n : MT) : MT := fun ρ => match m ρ with
  | none => none
  | some (true, ρ) => some (true, ρ)
  | some (false, ρ) => n ρ
theorem t_not {m : MT} (h : JT Y a m) : JT Y (.UnaryOp .Not a pos) (mTNot m) := by
  obtain ⟨t, p, s⟩ := h
  refine ⟨tNot t, fun j => pt_not (p j), fun c σ ρ T H Q re q => s c σ ρ T H _ re ?_⟩
  unfold mTNot at q
  cases hm : m ρ with
  | none =>
    rw [hm] at q
    exact q
  | some z =>
    rw [hm] at q
    exact q
/-- chains of and, or: PW -/
def JW (Y : Fam) (e : Expr) (m : MT) : Prop := ∃ t, (∀ i, PW (Y.X i) e t) ∧ SemT Y.K t m
theorem JW.jt {m : MT} (h : JW Y e m) : JT Y e m := by
  obtain ⟨t, p, s⟩ := h
  exact ⟨t, fun i => (p i).pt, s⟩
theorem w_and1 {m : MT} (h : JT Y a m) : JW Y (.BoolOp .And [a] pos) m := by
  obtain ⟨t, p, s⟩ := h
  exact ⟨t, fun i => pw_and1 (p i), s⟩
theorem w_or1 {m : MT} (h : JT Y a m) : JW Y (.BoolOp .Or [a] pos) m := by
  obtain ⟨t, p, s⟩ := h
  exact ⟨t, fun i => pw_or1 (p i), s⟩
theorem sem_and {K : PySem.W.Frag} {t u : TT} {m n : MT} (s : SemT K t m) (s' : SemT K u n) : SemT K (tAnd t u) (mTAnd m n) := fun c σ ρ T H Q re q => by
  refine s c σ ρ T H _ re ?_
  unfold mTAnd at q
  cases hm : m ρ with
  | none =>
    rw [hm] at q
    exact q
  | some z =>
    obtain ⟨k, ρ1⟩ := z
    rw [hm] at q
    cases k with
    | true =>
      intro H1 r1
      rw [if_pos rfl]
      exact s' c σ ρ1 T H1 Q r1 q
    | false =>
      intro H1 r1
      rw [if_neg Bool.false_ne_true]
      exact q H1 r1
theorem sem_or {K : PySem.W.Frag} {t u : TT} {m n : MT} (s : SemT K t m) (s' : SemT K u n) : SemT K (tOr t u) (mTOr m n) := fun c σ ρ T H Q re q => by
  refine s c σ ρ T H _ re ?_
  unfold mTOr at q
  cases hm : m ρ with
  | none =>
    rw [hm] at q
    exact q
  | some z =>
    obtain ⟨k, ρ1⟩ := z
    rw [hm] at q
    cases k with
    | true =>
      intro H1 r1
      rw [if_pos rfl]
      exact q H1 r1
    | false =>
      intro H1 r1
      rw [if_neg Bool.false_ne_true]
      exact s' c σ ρ1 T H1 Q r1 q
theorem w_and {rest : List Expr} {m n : MT} (h : JT Y a m) (g : JW Y (.BoolOp .And (b :: rest) pos) n) : JW Y (.BoolOp .And (a :: b :: rest) pos) (mTAnd m n) := by
  obtain ⟨t, p, s⟩ := h
  obtain ⟨u, p', s'⟩ := g
  exact ⟨tAnd t u, fun i => pw_and (p i) (p' i), sem_and s s'⟩
theorem w_or {rest : List Expr} {m n : MT} (h : JT Y a m) (g : JW Y (.BoolOp .Or (b :: rest) pos) n) : JW Y (.BoolOp .Or (a :: b :: rest) pos) (mTOr m n) := by
  obtain ⟨t, p, s⟩ := h
  obtain ⟨u, p', s'⟩ := g
  exact ⟨tOr t u, fun i => pw_or (p i) (p' i), sem_or s s'⟩
/-- as values: all but the last are truth values -/
def mNot (m : MV) : MV := fun ρ => match m ρ with
  | some (.bool b, ρ) => some (.bool (!b), ρ)
  | _ => none
def mAnd (m n : MV) : MV := fun ρ => match m ρ with
  | some (.bool true, ρ) => n ρ
  | some (.bool false, ρ) => some (.bool false, ρ)
  | _ => none
def mOr (m n : MV) : MV := fun ρ => match m ρ with
  | some (.bool true, ρ) => some (.bool true, ρ)
  | some (.bool false, ρ) => n ρ
  | _ => none
theorem j_not {m : MV} (h : JV Y a m) : JV Y (.UnaryOp .Not a pos) (mNot m) := by
  obtain ⟨t, p, s⟩ := h
  refine ⟨tNotV t, fun j => pe_not (p j), fun c σ ρ T H Q re q => s c σ ρ T H _ re ?_⟩
  unfold mNot at q
  split at q
  · rename_i b ρ1 e
    rw [e]
    intro v H1 r1
    have r1 : Rel Y.K c σ ρ1 ((v, .val (.bool b)) :: T) H1 := r1
    exact ⟨b, r1.boolTop, q _ H1 (r1.pop.pushB _)⟩
  · exact q.elim
theorem j_one {op : BoolOp} {m : MV} (h : JV Y a m) : JV Y (.BoolOp op [a] pos) m := by
  obtain ⟨t, p, s⟩ := h
  exact ⟨t, fun j => pe_one (p j), s⟩
theorem j_and {rest : List Expr} {m n : MV} (h : JV Y a m) (g : JV Y (.BoolOp .And (b :: rest) pos) n) : JV Y (.BoolOp .And (a :: b :: rest) pos) (mAnd m n) := by
  obtain ⟨t, p, s⟩ := h
  obtain ⟨u, p', s'⟩ := g
  refine ⟨tAndV t u, fun i => pe_and (p i) (p' i), fun c σ ρ T H Q re q => s c σ ρ T H _ re ?_⟩
  unfold mAnd at q
  split at q
  · rename_i ρ1 e
    rw [e]
    intro v H1 r1
    have r1 : Rel Y.K c σ ρ1 ((v, .val (.bool true)) :: T) H1 := r1
    refine ⟨true, r1.boolTop, ?_⟩
    rw [if_pos rfl]
    exact s' c σ ρ1 T H1 Q r1.pop q
  · rename_i ρ1 e
    rw [e]
    intro v H1 r1
    have r1 : Rel Y.K c σ ρ1 ((v, .val (.bool false)) :: T) H1 := r1
    refine ⟨false, r1.boolTop, ?_⟩
    rw [if_neg Bool.false_ne_true]
    exact q _ H1 (r1.pop.pushB _)
  · exact q.elim
theorem j_or {rest : List Expr} {m n : MV} (h : JV Y a m) (g : JV Y (.BoolOp .Or (b :: rest) pos) n) : JV Y (.BoolOp .Or (a :: b :: rest) pos) (mOr m n) := by
  obtain ⟨t, p, s⟩ := h
  obtain ⟨u, p', s'⟩ := g
  refine ⟨tOrV t u, fun i => pe_or (p i) (p' i), fun c σ ρ T H Q re q => s c σ ρ T H _ re ?_⟩
  unfold mOr at q
  split at q
  · rename_i ρ1 e
    rw [e]
    intro v H1 r1
    have r1 : Rel Y.K c σ ρ1 ((v, .val (.bool true)) :: T) H1 := r1
    refine ⟨true, r1.boolTop, ?_⟩
    rw [if_pos rfl]
    exact q _ H1 (r1.pop.pushB _)
  · rename_i ρ1 e
    rw [e]
    intro v H1 r1
    have r1 : Rel Y.K c σ ρ1 ((v, .val (.bool false)) :: T) H1 := r1
    refine ⟨false, r1.boolTop, ?_⟩
    rw [if_neg Bool.false_ne_true]
    exact s' c σ ρ1 T H1 Q r1.pop q
  · exact q.elim
def mIf {α : Type} (t : MT) (m n : En → Option α) : En → Option α := fun ρ => match t ρ with
  | none => none
  | some (true, ρ) => m ρ
  | some (false, ρ) => n ρ
theorem j_ifO {t : MT} {m n : MO} (hc : JT Y c0 t) (ha : JO Y a m) (hb : JO Y b n) : JO Y (.IfExp c0 a b pos) (mIf t m n) := by
  obtain ⟨tt, p, s⟩ := hc
  obtain ⟨ta, pa, sa⟩ := ha
  obtain ⟨tb, pb, sb⟩ := hb
  refine ⟨tIf tt ta tb, fun i => pe_ifExp (p i) (pa i) (pb i), fun c σ ρ T H Q re q => s c σ ρ T H _ re ?_⟩
  unfold mIf at q
  cases hm : t ρ with
  | none =>
    rw [hm] at q
    exact q
  | some z =>
    obtain ⟨k, ρ1⟩ := z
    rw [hm] at q
    cases k with
    | true =>
      intro H1 r1
      rw [if_pos rfl]
      exact sa c σ ρ1 T H1 Q r1 q
    | false =>
      intro H1 r1
      rw [if_neg Bool.false_ne_true]
      exact sb c σ ρ1 T H1 Q r1 q
theorem j_if {t : MT} {m n : MV} (hc : JT Y c0 t) (ha : JV Y a m) (hb : JV Y b n) : JV Y (.IfExp c0 a b pos) (mIf t m n) := by
  obtain ⟨tt, p, s⟩ := hc
  obtain ⟨ta, pa, sa⟩ := ha
  obtain ⟨tb, pb, sb⟩ := hb
  refine ⟨tIf tt ta tb, fun i => pe_ifExp (p i) (pa i) (pb i), fun c σ ρ T H Q re q => s c σ ρ T H _ re ?_⟩
  unfold mIf at q
  cases hm : t ρ with
  | none =>
    rw [hm] at q
    exact q
  | some z =>
    obtain ⟨k, ρ1⟩ := z
    rw [hm] at q
    cases k with
    | true =>
      intro H1 r1
      rw [if_pos rfl]
      exact sa c σ ρ1 T H1 Q r1 q
    | false =>
      intro H1 r1
      rw [if_neg Bool.false_ne_true]
      exact sb c σ ρ1 T H1 Q r1 q
/-! ### a < b < c -/
def mChain (g g' : PyData → PyData → Option PyData) (ma mb mc : MV) : MV := fun ρ => match ma ρ with
  | none => none
  | some (x, ρ) => match mb ρ with
    | none => none
    | some (y, ρ) => match g x y with
      | some (.bool false) => some (.bool false, ρ)
      | some (.bool true) => match mc ρ with
        | none => none
        | some (z, ρ) => (g' y z).map fun r => (r, ρ)
      | _ => none
theorem sem_chain {op op' : CmpOp} {g g' : PyData → PyData → Option PyData} {r r' : R2} {ta tb tc : TE} {ma mb mc : MV}
    (s : ∀ (c : Ct) (σ : L2.St) (ρ : En) (T : Tm) (H : Hp) (x y : V) (dx dy z : PyData) (Q : VK), Rel Y.K c σ ρ ((y, .val dy) :: (x, .val dx) :: T) H → g dx dy = some z → (∀ v H', Rel Y.K c σ ρ ((v, .val z) :: T) H' → Q v H') → r x y H Q)
    (s' : ∀ (c : Ct) (σ : L2.St) (ρ : En) (T : Tm) (H : Hp) (x y : V) (dx dy z : PyData) (Q : VK), Rel Y.K c σ ρ ((y, .val dy) :: (x, .val dx) :: T) H → g' dx dy = some z → (∀ v H', Rel Y.K c σ ρ ((v, .val z) :: T) H' → Q v H') → r' x y H Q)
    (sa : SemV Y.K ta ma) (sb : SemV Y.K tb mb) (sc : SemV Y.K tc mc) : SemV Y.K (tChain r r' ta tb tc) (mChain g g' ma mb mc) := fun c σ ρ T H Q re q => by
  unfold mChain at q
  split at q
  · exact q.elim
  · rename_i x ρ1 e1
    split at q
    · exact q.elim
    · rename_i y ρ2 e2
      split at q
      · rename_i e3
        refine sem_bin sa sb re ⟨x, ρ1, y, ρ2, e1, e2, fun vx vy H2 r2 => s c σ ρ2 T H2 vx vy x y _ _ r2 e3 fun v H3 r3 => ?_⟩
        refine ⟨false, r3.boolTop, ?_⟩
        rw [if_neg Bool.false_ne_true]
        exact q _ H3 (r3.pop.pushB _)
      · rename_i e3
        split at q
        · exact q.elim
        · rename_i z ρ3 e4
          cases hg : g' y z with
          | none =>
            rw [hg] at q
            exact q.elim
          | some w =>
            rw [hg] at q
            refine sem_bin sa sb re ⟨x, ρ1, y, ρ2, e1, e2, fun vx vy H2 r2 => ?_⟩
            have r2' : Rel Y.K c σ ρ2 ((vy, .val y) :: (vx, .val x) :: (vy, .val y) :: T) H2 := by
              obtain ⟨F, fp, f⟩ := r2
              have hy := f.top
              have f1 := f.popV
              have hx := f1.top
              exact ⟨F, fp, ((f1.popV.push hy).push hx).push hy⟩
            refine s c σ ρ2 _ H2 vx vy x y _ _ r2' e3 fun v H3 r3 => ⟨true, r3.boolTop, ?_⟩
            rw [if_pos rfl]
            refine sc c σ ρ2 _ H3 _ r3.pop ?_
            rw [e4]
            exact fun vz H4 r4 => s' c σ ρ3 T H4 vy vz y z w Q r4 hg q
      · exact q.elim
theorem j_chain {op op' : CmpOp} {g g' : PyData → PyData → Option PyData} {ma mb mc : MV} (ho : OpJ Y (compareOp op) g) (ho' : OpJ Y (compareOp op') g') (ha : JV Y a ma) (hb : JV Y b mb) (hc : JV Y c0 mc)
    (hm : lastMarks [op, op'] [b, c0] = false := by with_unfolding_all rfl) : JV Y (.Compare a [op, op'] [b, c0] pos) (mChain g g' ma mb mc) := by
  obtain ⟨r, o, s⟩ := ho
  obtain ⟨r', o', s'⟩ := ho'
  obtain ⟨ta, pa, sa⟩ := ha
  obtain ⟨tb, pb, sb⟩ := hb
  obtain ⟨tc, pc, sc⟩ := hc
  exact ⟨tChain r r' ta tb tc, fun j => pe_chain (o j) (o' j) (pa j) (pb j) (pc j) hm, sem_chain (op := op) (op' := op') s s' sa sb sc⟩
theorem t_chain {op op' : CmpOp} {g g' : PyData → PyData → Option PyData} {ma mb mc : MV} (ho : OpJ Y (compareOp op) g) (ho' : OpJ Y (compareOp op') g') (ha : JV Y a ma) (hb : JV Y b mb) (hc : JV Y c0 mc)
    (hm : lastMarks [op, op'] [b, c0] = false := by with_unfolding_all rfl) : JT Y (.Compare a [op, op'] [b, c0] pos) (mTest (mChain g g' ma mb mc)) := by
  obtain ⟨r, o, s⟩ := ho
  obtain ⟨r', o', s'⟩ := ho'
  obtain ⟨ta, pa, sa⟩ := ha
  obtain ⟨tb, pb, sb⟩ := hb
  obtain ⟨tc, pc, sc⟩ := hc
  refine ⟨_, fun j => pt_chain (o j) (o' j) (pa j) (pb j) (pc j) hm, fun c σ ρ T H Q re q => ?_⟩
  obtain ⟨b0, ρ2, e, q⟩ := test_inv q
  refine sem_chain (op := op) (op' := op') s s' sa sb sc c σ ρ T H _ re ?_
  rw [e]
  exact fun v H1 r1 => ⟨b0, r1.boolTop, q H1 r1.pop⟩
end
end Fj

set_option Elab.async false
set_option linter.all false
set_option maxRecDepth 100000
set_option maxHeartbeats 4000000
set_option autoImplicit false
/-! Operators on data, displays, places and parts of sequences, calls of built-ins. -/
namespace Fj
open PySem PySem.Spec PyProof.Rows L2

/-! ### values of temporaries -/
section
variable {K : PySem.W.Frag} {c : Ct} {σ : L2.St} {ρ : En} {T : Tm} {H F : Hp} {fp : List Addr} {v : V} {x y : V} {dx dy : PyData}
theorem RelF.two (r : RelF K c σ ρ ((y, .val dy) :: (x, .val dx) :: T) H F fp) : Rp K H x dx ∧ Rp K H y dy := ⟨r.popV.top.mono r.fh, r.top.mono r.fh⟩
theorem Rel.two (r : Rel K c σ ρ ((y, .val dy) :: (x, .val dx) :: T) H) : Rp K H x dx ∧ Rp K H y dy := let ⟨_, _, f⟩ := r; f.two
theorem Rel.top (r : Rel K c σ ρ ((x, .val dx) :: T) H) : Rp K H x dx := let ⟨_, _, f⟩ := r; f.top.mono f.fh
theorem Rel.pop2 {p q : V × Ent} (r : Rel K c σ ρ (p :: q :: T) H) : Rel K c σ ρ T H := Rel.pop (v := q.1) (e := q.2) (Rel.pop (v := p.1) (e := p.2) r)
/-- the whole numbers of a row of data -/
def intsD : List PyData → Option (List Int)
  | [] => some []
  | .int i :: r => (intsD r).map fun l => i :: l
  | _ => none
theorem intsD_eq : ∀ {ds : List PyData} {ns : List Int}, intsD ds = some ns → ds = ns.map PyData.int
  | [], ns, h => by
    cases h
    rfl
  | d :: r, ns, h => by
    cases d with
    | int i =>
      simp only [intsD, Option.map_eq_some_iff] at h
      obtain ⟨l, h1, rfl⟩ := h
      rw [intsD_eq h1]
      rfl
    | _ => simp [intsD] at h
theorem intsD_map : ∀ ns : List Int, intsD (ns.map PyData.int) = some ns
  | [] => rfl
  | n :: ns => by simp only [List.map_cons, intsD, intsD_map ns, Option.map_some]
theorem Rps.nums {vs : List V} : ∀ {ns : List Int}, Rps K F vs (ns.map PyData.int) → vs = ns.map V.int := by
  intro ns
  induction ns generalizing vs with
  | nil =>
    intro h
    cases h
    rfl
  | cons n ns ih =>
    intro h
    cases h with
    | cons r t =>
      cases r
      rw [ih t]
      rfl
theorem Rps.ofInts : ∀ {ns : List Int}, Rps K F (ns.map V.int) (ns.map PyData.int)
  | [] => .nil
  | n :: ns => .cons (.int n) Rps.ofInts
/-- the texts of a row of data -/
def strsD : List PyData → Option (List Str)
  | [] => some []
  | .str i :: r => (strsD r).map fun l => i :: l
  | _ => none
theorem strsD_eq : ∀ {ds : List PyData} {ns : List Str}, strsD ds = some ns → ds = ns.map PyData.str
  | [], ns, h => by
    cases h
    rfl
  | d :: r, ns, h => by
    cases d with
    | str i =>
      simp only [strsD, Option.map_eq_some_iff] at h
      obtain ⟨l, h1, rfl⟩ := h
      rw [strsD_eq h1]
      rfl
    | _ => simp [strsD] at h
theorem strsD_map : ∀ ns : List Str, strsD (ns.map PyData.str) = some ns
  | [] => rfl
  | n :: ns => by simp only [List.map_cons, strsD, strsD_map ns, Option.map_some]
theorem Rps.texts {vs : List V} : ∀ {ns : List Str}, Rps K F vs (ns.map PyData.str) → vs = ns.map V.str := by
  intro ns
  induction ns generalizing vs with
  | nil =>
    intro h
    cases h
    rfl
  | cons n ns ih =>
    intro h
    cases h with
    | cons r t =>
      cases r
      rw [ih t]
      rfl
theorem Rps.ofTexts : ∀ {ns : List Str}, Rps K F (ns.map V.str) (ns.map PyData.str)
  | [] => .nil
  | n :: ns => .cons (.str n) Rps.ofTexts
def boolsD : List PyData → Option (List Bool)
  | [] => some []
  | .bool i :: r => (boolsD r).map fun l => i :: l
  | _ => none
theorem boolsD_eq : ∀ {ds : List PyData} {ns : List Bool}, boolsD ds = some ns → ds = ns.map PyData.bool
  | [], ns, h => by
    cases h
    rfl
  | d :: r, ns, h => by
    cases d with
    | bool i =>
      simp only [boolsD, Option.map_eq_some_iff] at h
      obtain ⟨l, h1, rfl⟩ := h
      rw [boolsD_eq h1]
      rfl
    | _ => simp [boolsD] at h
theorem boolsD_map : ∀ ns : List Bool, boolsD (ns.map PyData.bool) = some ns
  | [] => rfl
  | n :: ns => by simp only [List.map_cons, boolsD, boolsD_map ns, Option.map_some]
theorem Rps.bools {vs : List V} : ∀ {ns : List Bool}, Rps K F vs (ns.map PyData.bool) → vs = ns.map V.bl := by
  intro ns
  induction ns generalizing vs with
  | nil =>
    intro h
    cases h
    rfl
  | cons n ns ih =>
    intro h
    cases h with
    | cons r t =>
      cases r
      rw [ih t]
      rfl
end

theorem sz5 {n : Nat} (h : n ≤ 100000) : n ≤ sizeLine := Nat.le_trans h (by decide)
theorem sz5l {n : Nat} (h : n < 100000) : n < sizeLine := Nat.lt_of_lt_of_le h (by decide)
/-! ### arithmetic -/
section
variable {Y : Fam}
def gI (C : Int → Int → Bool) (g : Int → Int → Int) : PyData → PyData → Option PyData
  | .int i, .int j => if C i j = true then some (.int (g i j)) else none
  | _, _ => none
theorem opj_I {f : Value → Value → Sem Value} {D : Int → Int → Prop} {C : Int → Int → Bool} {g : Int → Int → Int} (h : ∀ j, OpR (Y.X j) f (rI D fun i j => .int (g i j))) (hc : ∀ i j, C i j = true → D i j) : OpJ Y f (gI C g) := by
  refine ⟨_, h, fun c σ ρ T H x y dx dy z Q r e q => ?_⟩
  unfold gI at e
  split at e
  · rename_i i j
    split at e
    · rename_i hC
      cases e
      have hy := r.intTop
      have hx := r.pop.intTop
      subst hx hy
      exact ⟨i, j, rfl, rfl, hc i j hC, q _ H (r.pop2.pushI _)⟩
    · cases e
  · cases e
theorem opj_I0 {f : Value → Value → Sem Value} {g : Int → Int → Int} (h : ∀ j, OpR (Y.X j) f (rI0 fun i j => .int (g i j))) : OpJ Y f (gI (fun _ _ => true) g) := by
  refine ⟨_, h, fun c σ ρ T H x y dx dy z Q r e q => ?_⟩
  unfold gI at e
  split at e
  · rename_i i j
    rw [if_pos rfl] at e
    cases e
    have hy := r.intTop
    have hx := r.pop.intTop
    subst hx hy
    exact ⟨i, j, rfl, rfl, q _ H (r.pop2.pushI _)⟩
  · cases e
def gB (g : Int → Int → Bool) : PyData → PyData → Option PyData
  | .int i, .int j => some (.bool (g i j))
  | _, _ => none
theorem opj_B {f : Value → Value → Sem Value} {g : Int → Int → Bool} (h : ∀ j, OpR (Y.X j) f (rI0 fun i j => .bl (g i j))) : OpJ Y f (gB g) := by
  refine ⟨_, h, fun c σ ρ T H x y dx dy z Q r e q => ?_⟩
  unfold gB at e
  split at e
  · rename_i i j
    cases e
    have hy := r.intTop
    have hx := r.pop.intTop
    subst hx hy
    exact ⟨i, j, rfl, rfl, q _ H (r.pop2.pushB _)⟩
  · cases e
/-- texts together -/
def gAddS : PyData → PyData → Option PyData
  | .str x, .str y => if x.length + y.length ≤ 100000 then some (.str (x ++ y)) else none
  | _, _ => none
theorem opj_addS : OpJ Y (binaryOp .Add) gAddS := by
  refine ⟨_, fun j => op_add_str, fun c σ ρ T H x y dx dy z Q r e q => ?_⟩
  unfold gAddS at e
  split at e
  · rename_i i j
    split at e
    · rename_i hC
      cases e
      have hy := r.strTop
      have hx := r.pop.strTop
      subst hx hy
      exact ⟨i, j, rfl, rfl, sz5 hC, q _ H (r.pop2.pushS _)⟩
    · cases e
  · cases e
/-- tuples together -/
def gAddT : PyData → PyData → Option PyData
  | .tuple xs, .tuple ys => if xs.length + ys.length ≤ 100000 then some (.tuple (xs ++ ys)) else none
  | _, _ => none
theorem opj_addT : OpJ Y (binaryOp .Add) gAddT := by
  refine ⟨rCatA Y.K, fun j => by rw [← Y.hK j]; exact op_catA, fun c σ ρ T H x y dx dy z Q r e q => ?_⟩
  unfold gAddT at e
  split at e
  · rename_i xs ys
    split at e
    · rename_i hC
      cases e
      obtain ⟨F, fp, f⟩ := r
      have hy := f.top
      have hx := f.popV.top
      cases hx with
      | @tup a vs _ ha ra =>
        cases hy with
        | @tup b ws _ hb rb =>
          have la := ra.length
          have lb := rb.length
          have r0 : Rel Y.K c σ ρ T H := ⟨F, fp, f.popV.popV⟩
          refine ⟨a, b, vs, ws, rfl, rfl, same_tup f.fh ha, same_tup f.fh hb, sz5 (by omega), fun z => ?_, fun z1 z2 => ?_, fun z1 z2 p hp => ?_⟩
          · have : xs = [] := List.eq_nil_of_length_eq_zero (by rw [← la, z]; rfl)
            subst this
            exact q _ H ⟨F, fp, f.popV.popV.push (.tup hb rb)⟩
          · have : ys = [] := List.eq_nil_of_length_eq_zero (by rw [← lb, z2]; rfl)
            subst this
            rw [List.append_nil] at q
            exact q _ H ⟨F, fp, f.popV.popV.push (.tup ha ra)⟩
          · exact q _ _ (f.popV.popV.tupNew hp (ra.app rb))
    · cases e
  · cases e

/-! ### comparisons -/
def gAddL : PyData → PyData → Option PyData
  | .list xs, .list ys => if xs.length + ys.length ≤ 100000 then some (.list (xs ++ ys)) else none
  | _, _ => none
theorem opj_addL : OpJ Y (binaryOp .Add) gAddL := by
  refine ⟨rCat, fun j => op_cat, fun c σ ρ T H x y dx dy z Q r e q => ?_⟩
  unfold gAddL at e
  split at e
  · rename_i xs ys
    split at e
    · rename_i hC
      cases e
      obtain ⟨F, fp, f⟩ := r
      have hy := f.top
      have hx := f.popV.top
      cases hx with
      | @lst a vs _ ha ra =>
        cases hy with
        | @lst b ws _ hb rb =>
          have la := ra.length
          have lb := rb.length
          exact ⟨a, b, vs, ws, rfl, rfl, f.fh _ _ ha, f.fh _ _ hb, sz5 (by omega), fun p hp => q _ _ (f.popV.popV.lstNew hp (ra.app rb)).freeze⟩
    · cases e
  · cases e
def repD (n : Nat) (ds : List PyData) : List PyData := (List.replicate n ds).flatten
theorem rps_rep {K : PySem.W.Frag} {F : Hp} {vs : List V} {ds : List PyData} (r : Rps K F vs ds) : ∀ n : Nat, Rps K F (List.replicate n vs).flatten (repD n ds)
  | 0 => .nil
  | n + 1 => by
    unfold repD
    rw [List.replicate_succ, List.replicate_succ, List.flatten_cons, List.flatten_cons]
    exact r.app (rps_rep r n)
def gMulL : PyData → PyData → Option PyData
  | .list xs, .int k => if -1000000 ≤ k ∧ k ≤ 100000 ∧ xs.length * k.toNat ≤ 100000 then some (.list (repD k.toNat xs)) else none
  | .tuple xs, .int k => if 2 ≤ k ∧ k ≤ 1000 ∧ xs.length ≤ 1000 ∧ 1 ≤ xs.length then some (.tuple (repD k.toNat xs)) else none
  | _, _ => none
theorem opj_mulL : OpJ Y (binaryOp .Mult) gMulL := by
  refine ⟨fun x y H Q => rRep x y H Q ∨ rRepT Y.K x y H Q, fun j => by rw [← Y.hK j]; exact OpR.or op_rep op_repT, fun c σ ρ T H x y dx dy z Q r e q => ?_⟩
  unfold gMulL at e
  split at e
  · rename_i xs k
    split at e
    · rename_i hC
      cases e
      obtain ⟨F, fp, f⟩ := r
      have hy := f.top
      have hx := f.popV.top
      cases hy
      cases hx with
      | @lst a vs _ ha ra =>
        have la := ra.length
        refine .inl ⟨a, k, vs, rfl, rfl, f.fh _ _ ha, by omega, by omega, sz5 (by rw [la]; exact hC.2.2), fun p hp => q _ _ (f.popV.popV.lstNew hp (rps_rep ra _)).freeze⟩
    · cases e
  · rename_i xs k
    split at e
    · rename_i hC
      cases e
      obtain ⟨F, fp, f⟩ := r
      have hy := f.top
      have hx := f.popV.top
      cases hy
      cases hx with
      | @tup a vs _ ha ra =>
        have la := ra.length
        have hne : vs ≠ [] := by
          intro z
          rw [z] at la
          have := hC.2.2.2
          rw [← la] at this
          cases this
        refine .inr ⟨a, k, vs, rfl, rfl, same_tup f.fh ha, hne, hC.1, hC.2.1, by rw [la]; exact hC.2.2.1, fun p hp => q _ _ (f.popV.popV.tupNew hp (rps_rep ra _))⟩
    · cases e
  · cases e
def isND : PyData → Bool
  | .none => true
  | _ => false
theorem Rp.shape {K : PySem.W.Frag} {F : Hp} {v : V} {d : PyData} (h : Rp K F v d) : (decide (v = .non)) = isND d := by
  cases h <;> rfl
def gEqD : PyData → PyData → Option PyData := fun x y => if SeqAt.shaped x && SeqAt.shaped y then some (.bool (PyData.eqv x y)) else none
def gNeD : PyData → PyData → Option PyData := fun x y => if SeqAt.shaped x && SeqAt.shaped y then some (.bool (!PyData.eqv x y)) else none
def gEqS : PyData → PyData → Option PyData
  | .str x, .str y => some (.bool (decide (x = y)))
  | _, _ => none
def gNeS : PyData → PyData → Option PyData
  | .str x, .str y => some (.bool (!decide (x = y)))
  | _, _ => none
theorem dec_strs {x y : Str} : decide (V.str x = V.str y) = decide (x = y) := by
  by_cases h : x = y
  · rw [decide_eq_true h, decide_eq_true (congrArg V.str h)]
  · rw [decide_eq_false h, decide_eq_false fun z => h (V.str.inj z)]
theorem opj_eqS : OpJ Y (compareOp .Eq) gEqS := by
  refine ⟨rEq, fun j => op_eq, fun c σ ρ T H x y dx dy z Q r e q => ?_⟩
  unfold gEqS at e
  split at e
  · cases e
    obtain ⟨h1, h2⟩ := r.two
    cases h1
    cases h2
    refine ⟨rfl, ?_⟩
    rw [dec_strs]
    exact q _ H (r.pop2.pushB _)
  · cases e
theorem opj_neS : OpJ Y (compareOp .NotEq) gNeS := by
  refine ⟨rNe, fun j => op_ne, fun c σ ρ T H x y dx dy z Q r e q => ?_⟩
  unfold gNeS at e
  split at e
  · cases e
    obtain ⟨h1, h2⟩ := r.two
    cases h1
    cases h2
    refine ⟨rfl, ?_⟩
    rw [dec_strs]
    exact q _ H (r.pop2.pushB _)
  · cases e
theorem opj_eq : OpJ Y (compareOp .Eq) gEqD := by
  refine ⟨rEqD Y.K, fun j => by rw [← Y.hK j]; exact op_eqD (Y.room j).units, fun c σ ρ T H x y dx dy z Q r e q => ?_⟩
  unfold gEqD at e
  split at e
  · rename_i hs
    cases e
    obtain ⟨s1, s2⟩ := Bool.and_eq_true_iff.mp hs
    obtain ⟨h1, h2⟩ := r.two
    exact ⟨dx, dy, h1.dp (SeqAt.canLay_of_shaped s1), h2.dp (SeqAt.canLay_of_shaped s2), s1, s2, q _ H (r.pop2.pushB _)⟩
  · cases e
theorem opj_ne : OpJ Y (compareOp .NotEq) gNeD := by
  refine ⟨rNeD Y.K, fun j => by rw [← Y.hK j]; exact op_neD (Y.room j).units, fun c σ ρ T H x y dx dy z Q r e q => ?_⟩
  unfold gNeD at e
  split at e
  · rename_i hs
    cases e
    obtain ⟨s1, s2⟩ := Bool.and_eq_true_iff.mp hs
    obtain ⟨h1, h2⟩ := r.two
    exact ⟨dx, dy, h1.dp (SeqAt.canLay_of_shaped s1), h2.dp (SeqAt.canLay_of_shaped s2), s1, s2, q _ H (r.pop2.pushB _)⟩
  · cases e
def gIsN : PyData → PyData → Option PyData
  | d, .none => some (.bool (isND d))
  | _, _ => none
def gNotN : PyData → PyData → Option PyData
  | d, .none => some (.bool (!(isND d)))
  | _, _ => none
theorem opj_isN : OpJ Y (compareOp .Is) gIsN := by
  refine ⟨_, fun j => op_isN, fun c σ ρ T H x y dx dy z Q r e q => ?_⟩
  unfold gIsN at e
  split at e
  · cases e
    refine ⟨r.nonTop, ?_⟩
    rw [r.two.1.shape]
    exact q _ H (r.pop2.pushB _)
  · cases e
theorem opj_notN : OpJ Y (compareOp .IsNot) gNotN := by
  refine ⟨_, fun j => op_notN, fun c σ ρ T H x y dx dy z Q r e q => ?_⟩
  unfold gNotN at e
  split at e
  · cases e
    refine ⟨r.nonTop, ?_⟩
    rw [r.two.1.shape]
    exact q _ H (r.pop2.pushB _)
  · cases e
def gIsB : PyData → PyData → Option PyData
  | .bool a, .bool b => some (.bool (decide (a = b)))
  | _, _ => none
def gNotB : PyData → PyData → Option PyData
  | .bool a, .bool b => some (.bool (!decide (a = b)))
  | _, _ => none
theorem opj_isB : OpJ Y (compareOp .Is) gIsB := by
  refine ⟨_, fun j => op_is_bl, fun c σ ρ T H x y dx dy z Q r e q => ?_⟩
  unfold gIsB at e
  split at e
  · cases e
    have hy := r.boolTop
    have hx := r.pop.boolTop
    subst hx hy
    exact ⟨_, _, rfl, rfl, q _ H (r.pop2.pushB _)⟩
  · cases e
theorem opj_notB : OpJ Y (compareOp .IsNot) gNotB := by
  refine ⟨_, fun j => op_isnot_bl, fun c σ ρ T H x y dx dy z Q r e q => ?_⟩
  unfold gNotB at e
  split at e
  · cases e
    have hy := r.boolTop
    have hx := r.pop.boolTop
    subst hx hy
    exact ⟨_, _, rfl, rfl, q _ H (r.pop2.pushB _)⟩
  · cases e
/-- is True, is False of what is no bool -/
def gIsX : PyData → PyData → Option PyData
  | .none, .bool _ => some (.bool false)
  | .int _, .bool _ => some (.bool false)
  | .str _, .bool _ => some (.bool false)
  | .list _, .bool _ => some (.bool false)
  | .tuple _, .bool _ => some (.bool false)
  | _, _ => none
def gNotX : PyData → PyData → Option PyData
  | .none, .bool _ => some (.bool true)
  | .int _, .bool _ => some (.bool true)
  | .str _, .bool _ => some (.bool true)
  | .list _, .bool _ => some (.bool true)
  | .tuple _, .bool _ => some (.bool true)
  | _, _ => none
def noB (x : V) : Prop := x = .non ∨ (∃ i, x = .int i) ∨ (∃ z, x = .str z) ∨ ∃ a, x = .ref a
theorem op_isX {X : Cx} : OpR X (compareOp .Is) (fun x y H Q => ∃ b, y = .bl b ∧ noB x ∧ Q (.bl false) H) := by
  intro pins s σ H x y v u Q I rx ry h
  obtain ⟨b, rfl, hx, q⟩ := h
  cases (show u = Value.bool b from ry)
  rcases hx with rfl | ⟨i, rfl⟩ | ⟨z, rfl⟩ | ⟨a, rfl⟩
  · cases (show v = Value.none from rx)
    exact wpAny_is_other rfl (fun z => by cases z) ⟨.bl false, H, I, rfl, q⟩
  · obtain ⟨t, rfl⟩ := (show ∃ t, v = Value.int i t from rx)
    exact wpAny_is_other rfl (fun z => by cases z) ⟨.bl false, H, I, rfl, q⟩
  · obtain ⟨t, rfl⟩ := (show ∃ t, v = Value.str z t from rx)
    exact wpAny_is_other rfl (fun z => by cases z) ⟨.bl false, H, I, rfl, q⟩
  · cases (show v = Value.ref a from rx)
    exact wpAny_is_other rfl (fun z => by cases z) ⟨.bl false, H, I, rfl, q⟩
theorem op_notX {X : Cx} : OpR X (compareOp .IsNot) (fun x y H Q => ∃ b, y = .bl b ∧ noB x ∧ Q (.bl true) H) := by
  intro pins s σ H x y v u Q I rx ry h
  obtain ⟨b, rfl, hx, q⟩ := h
  cases (show u = Value.bool b from ry)
  rcases hx with rfl | ⟨i, rfl⟩ | ⟨z, rfl⟩ | ⟨a, rfl⟩
  · cases (show v = Value.none from rx)
    exact wpAny_isNot_other rfl (fun z => by cases z) ⟨.bl true, H, I, rfl, q⟩
  · obtain ⟨t, rfl⟩ := (show ∃ t, v = Value.int i t from rx)
    exact wpAny_isNot_other rfl (fun z => by cases z) ⟨.bl true, H, I, rfl, q⟩
  · obtain ⟨t, rfl⟩ := (show ∃ t, v = Value.str z t from rx)
    exact wpAny_isNot_other rfl (fun z => by cases z) ⟨.bl true, H, I, rfl, q⟩
  · cases (show v = Value.ref a from rx)
    exact wpAny_isNot_other rfl (fun z => by cases z) ⟨.bl true, H, I, rfl, q⟩
theorem opj_isX : OpJ Y (compareOp .Is) gIsX := by
  refine ⟨_, fun j => op_isX, fun c σ ρ T H x y dx dy z Q r e q => ?_⟩
  have two := r.two
  unfold gIsX at e
  split at e <;> first | (cases e; done) | skip
  all_goals
    cases e
    have hy := r.boolTop
    subst hy
    refine ⟨_, rfl, ?_, q _ H (r.pop2.pushB _)⟩
    cases two.1 <;> first | exact .inl rfl | exact .inr (.inl ⟨_, rfl⟩) | exact .inr (.inr (.inl ⟨_, rfl⟩)) | exact .inr (.inr (.inr ⟨_, rfl⟩))
theorem opj_notX : OpJ Y (compareOp .IsNot) gNotX := by
  refine ⟨_, fun j => op_notX, fun c σ ρ T H x y dx dy z Q r e q => ?_⟩
  have two := r.two
  unfold gNotX at e
  split at e <;> first | (cases e; done) | skip
  all_goals
    cases e
    have hy := r.boolTop
    subst hy
    refine ⟨_, rfl, ?_, q _ H (r.pop2.pushB _)⟩
    cases two.1 <;> first | exact .inl rfl | exact .inr (.inl ⟨_, rfl⟩) | exact .inr (.inr (.inl ⟨_, rfl⟩)) | exact .inr (.inr (.inr ⟨_, rfl⟩))
/-- the order of tuples of whole numbers -/
def gLtT : PyData → PyData → Option PyData
  | .tuple xs, .tuple ys => match intsD xs, intsD ys with
    | some ns, some ms => some (.bool (HT.lexLt ns ms))
    | _, _ => none
  | _, _ => none
def leL (ns ms : List Int) : Bool := Ob.lexAt (fun j => decide (ns.getD j 0 = ms.getD j 0)) (fun j => decide (ns.getD j 0 ≤ ms.getD j 0)) (decide (ns.length ≤ ms.length)) 0 (min ns.length ms.length)
def gLeT : PyData → PyData → Option PyData
  | .tuple xs, .tuple ys => match intsD xs, intsD ys with
    | some ns, some ms => some (.bool (leL ns ms))
    | _, _ => none
  | _, _ => none
theorem Rp.tupInts {K : PySem.W.Frag} {F : Hp} {v : V} {xs : List PyData} {ns : List Int} (h : Rp K F v (.tuple xs)) (e : intsD xs = some ns) : ∃ a, v = .ref a ∧ SqT K F a (ns.map V.int) := by
  have e2 := intsD_eq e
  subst e2
  cases h with
  | @tup a vs _ h r =>
    have e3 := r.nums
    subst e3
    exact ⟨a, rfl, h⟩
theorem opj_ltT : OpJ Y (compareOp .Lt) gLtT := by
  refine ⟨rLtT Y.K, fun j => by rw [← Y.hK j]; exact op_ltT (Y.room j).units0, fun c σ ρ T H x y dx dy z Q r e q => ?_⟩
  unfold gLtT at e
  split at e
  · split at e
    · rename_i e1 e2
      cases e
      obtain ⟨h1, h2⟩ := r.two
      obtain ⟨a, rfl, ha⟩ := h1.tupInts e1
      obtain ⟨b, rfl, hb⟩ := h2.tupInts e2
      exact ⟨a, b, _, _, rfl, rfl, ha, hb, q _ H (r.pop2.pushB _)⟩
    · cases e
  · cases e
theorem opj_leT : OpJ Y (compareOp .LtE) gLeT := by
  refine ⟨rLeT Y.K, fun j => by rw [← Y.hK j]; exact op_leT (Y.room j).units0, fun c σ ρ T H x y dx dy z Q r e q => ?_⟩
  unfold gLeT at e
  split at e
  · split at e
    · rename_i e1 e2
      cases e
      obtain ⟨h1, h2⟩ := r.two
      obtain ⟨a, rfl, ha⟩ := h1.tupInts e1
      obtain ⟨b, rfl, hb⟩ := h2.tupInts e2
      exact ⟨a, b, _, _, rfl, rfl, ha, hb, q _ H (r.pop2.pushB _)⟩
    · cases e
  · cases e
def gLtS : PyData → PyData → Option PyData
  | .str x, .str y => some (.bool (decide (x.cps.toList < y.cps.toList)))
  | _, _ => none
theorem opj_ltS : OpJ Y (compareOp .Lt) gLtS := by
  refine ⟨_, fun j => op_lt_str, fun c σ ρ T H x y dx dy z Q r e q => ?_⟩
  unfold gLtS at e
  split at e
  · cases e
    have hy := r.strTop
    have hx := r.pop.strTop
    subst hx hy
    exact ⟨_, _, rfl, rfl, q _ H (r.pop2.pushB _)⟩
  · cases e
/-- one sign in a text -/
def gInS : PyData → PyData → Option PyData
  | .str x, .str y => match x.cps.toList with
    | [k] => some (.bool (decide (k ∈ y.cps.toList)))
    | _ => none
  | _, _ => none
theorem opj_inS : OpJ Y (compareOp .In) gInS := by
  refine ⟨_, fun j => op_in_sign, fun c σ ρ T H x y dx dy z Q r e q => ?_⟩
  unfold gInS at e
  split at e
  · rename_i x0 y0
    split at e
    · rename_i k hk
      cases e
      have hy := r.strTop
      have hx := r.pop.strTop
      subst hx hy
      refine ⟨k, _, ?_, rfl, q _ H (r.pop2.pushB _)⟩
      obtain ⟨⟨l⟩⟩ := x0
      simp only at hk
      subst hk
      rfl
    · cases e
  · cases e
/-- in a row of data -/
def gInD : PyData → PyData → Option PyData
  | d, .list ds => if SeqAt.shaped d && SeqAt.shaped (.list ds) then some (.bool (ds.any fun z => PyData.eqv z d)) else none
  | d, .tuple ds => if SeqAt.shaped d && SeqAt.shaped (.tuple ds) then some (.bool (ds.any fun z => PyData.eqv z d)) else none
  | _, _ => none
def gNotInD : PyData → PyData → Option PyData
  | d, .list ds => if SeqAt.shaped d && SeqAt.shaped (.list ds) then some (.bool (!ds.any fun z => PyData.eqv z d)) else none
  | d, .tuple ds => if SeqAt.shaped d && SeqAt.shaped (.tuple ds) then some (.bool (!ds.any fun z => PyData.eqv z d)) else none
  | _, _ => none
def rInTup (K : PySem.W.Frag) (neg : Bool) : R2 := fun x y H Q => ∃ d ds, Dp K H x d ∧ Dp K H y (.tuple ds) ∧ SeqAt.shaped d = true ∧ SeqAt.shaped (.tuple ds) = true ∧ Q (.bl (if neg = true then !ds.any fun z => PyData.eqv z d else ds.any fun z => PyData.eqv z d)) H
theorem or_inTup {X : Cx} (hu : X.A.units + 65 < cLine) : OpR X (compareOp .In) (rInTup X.K false) := fun pins s σ H x y v u Q I rx ry h => by
  obtain ⟨d, ds, h1, h2, s1, s2, q⟩ := h
  obtain ⟨_, g1⟩ := Dp.reads I d x v h1 rx
  obtain ⟨_, g2⟩ := Dp.reads I (.tuple ds) y u h2 ry
  refine SeqAt.in_tuple_reads g2 g1 ?_ (SeqAt.canLay_of_shaped s1) (room_in_shaped s1 hu) ⟨.bl _, H, I, rfl, q⟩
  simpa only [PyData.canLay0] using SeqAt.canLay_of_shaped s2
theorem or_notInTup {X : Cx} (hu : X.A.units + 65 < cLine) : OpR X (compareOp .NotIn) (rInTup X.K true) := fun pins s σ H x y v u Q I rx ry h => by
  obtain ⟨d, ds, h1, h2, s1, s2, q⟩ := h
  obtain ⟨_, g1⟩ := Dp.reads I d x v h1 rx
  obtain ⟨_, g2⟩ := Dp.reads I (.tuple ds) y u h2 ry
  refine SeqAt.notIn_tuple_reads g2 g1 ?_ (SeqAt.canLay_of_shaped s1) (room_in_shaped s1 hu) ⟨.bl _, H, I, rfl, q⟩
  simpa only [PyData.canLay0] using SeqAt.canLay_of_shaped s2
theorem units65 {k : Nat} {A : Around} (r : Room k A) : A.units + 65 < cLine := by
  have := r.un
  omega
theorem opj_inD : OpJ Y (compareOp .In) gInD := by
  refine ⟨_, fun j => OpR.or (r := rInD Y.K) (r' := rInTup Y.K false) (by rw [← Y.hK j]; exact op_inD (units65 (Y.room j))) (by rw [← Y.hK j]; exact or_inTup (units65 (Y.room j))), fun c σ ρ T H x y dx dy z Q r e q => ?_⟩
  unfold gInD at e
  obtain ⟨h1, h2⟩ := r.two
  split at e
  · split at e
    · rename_i hs
      cases e
      obtain ⟨s1, s2⟩ := Bool.and_eq_true_iff.mp hs
      exact .inl ⟨_, _, h1.dp (SeqAt.canLay_of_shaped s1), h2.dp (SeqAt.canLay_of_shaped s2), s1, s2, q _ H (r.pop2.pushB _)⟩
    · cases e
  · split at e
    · rename_i hs
      cases e
      obtain ⟨s1, s2⟩ := Bool.and_eq_true_iff.mp hs
      exact .inr ⟨_, _, h1.dp (SeqAt.canLay_of_shaped s1), h2.dp (SeqAt.canLay_of_shaped s2), s1, s2, q _ H (r.pop2.pushB _)⟩
    · cases e
  · cases e
theorem opj_notInD : OpJ Y (compareOp .NotIn) gNotInD := by
  refine ⟨_, fun j => OpR.or (r := rNotInD Y.K) (r' := rInTup Y.K true) (by rw [← Y.hK j]; exact op_notInD (units65 (Y.room j))) (by rw [← Y.hK j]; exact or_notInTup (units65 (Y.room j))), fun c σ ρ T H x y dx dy z Q r e q => ?_⟩
  unfold gNotInD at e
  obtain ⟨h1, h2⟩ := r.two
  split at e
  · split at e
    · rename_i hs
      cases e
      obtain ⟨s1, s2⟩ := Bool.and_eq_true_iff.mp hs
      exact .inl ⟨_, _, h1.dp (SeqAt.canLay_of_shaped s1), h2.dp (SeqAt.canLay_of_shaped s2), s1, s2, q _ H (r.pop2.pushB _)⟩
    · cases e
  · split at e
    · rename_i hs
      cases e
      obtain ⟨s1, s2⟩ := Bool.and_eq_true_iff.mp hs
      exact .inr ⟨_, _, h1.dp (SeqAt.canLay_of_shaped s1), h2.dp (SeqAt.canLay_of_shaped s2), s1, s2, q _ H (r.pop2.pushB _)⟩
    · cases e
  · cases e
/-! ### the operators of the programs, each with all the kinds it takes -/
def gEq (x y : PyData) : Option PyData := (gEqS x y).or (gEqD x y)
def gNe (x y : PyData) : Option PyData := (gNeS x y).or (gNeD x y)
def gMulC (i j : Int) : Bool := decide (i.natAbs.log2 + j.natAbs.log2 < 1000000)
def gDivC (_ j : Int) : Bool := decide (0 < j) && decide (j.natAbs.log2 < 9000)
def gModC (_ j : Int) : Bool := decide (0 < j)
def gPowC (i j : Int) : Bool := decide (0 ≤ j) && decide (j ≤ 1000000) && decide (i.natAbs < 2 ^ 64)
def gAdd (x y : PyData) : Option PyData := (gI (fun _ _ => true) (fun i j => i + j) x y).or ((gAddS x y).or ((gAddT x y).or (gAddL x y)))
def gSub := gI (fun _ _ => true) (fun i j => i - j)
def gMulI := gI gMulC (fun i j => i * j)
def gMul (x y : PyData) : Option PyData := (gMulI x y).or (gMulL x y)
def gDiv := gI gDivC (fun i j => i / j)
def gMod := gI gModC (fun i j => i % j)
def gPow := gI gPowC (fun i j => i ^ j.toNat)
def gLt (x y : PyData) : Option PyData := (gB (fun i j => decide (i < j)) x y).or ((gLtS x y).or (gLtT x y))
def gLe (x y : PyData) : Option PyData := (gB (fun i j => decide (i ≤ j)) x y).or (gLeT x y)
def gGt := gB (fun i j => decide (j < i))
def gGe := gB (fun i j => decide (j ≤ i))
def gIn (x y : PyData) : Option PyData := (gInD x y).or (gInS x y)
def gIs (x y : PyData) : Option PyData := (gIsN x y).or ((gIsB x y).or (gIsX x y))
def gNot (x y : PyData) : Option PyData := (gNotN x y).or ((gNotB x y).or (gNotX x y))
theorem o_add : OpJ Y (binaryOp .Add) gAdd := (opj_I0 fun _ => op_add).or (opj_addS.or (opj_addT.or opj_addL))
theorem o_sub : OpJ Y (binaryOp .Sub) gSub := opj_I0 fun _ => op_sub
theorem o_mul : OpJ Y (binaryOp .Mult) gMul := OpJ.or (opj_I (fun _ => op_mulW) fun i j h => (of_decide_eq_true h : i.natAbs.log2 + j.natAbs.log2 < 1000000)) opj_mulL
theorem o_div : OpJ Y (binaryOp .FloorDiv) gDiv := opj_I (fun _ => op_fdivW) fun i j h => by
  obtain ⟨a, b⟩ := Bool.and_eq_true_iff.mp h
  exact ⟨of_decide_eq_true a, of_decide_eq_true b⟩
theorem o_mod : OpJ Y (binaryOp .Mod) gMod := opj_I (fun _ => op_mod) fun i j h => of_decide_eq_true h
theorem o_pow : OpJ Y (binaryOp .Pow) gPow := opj_I (fun _ => op_pow) fun i j h => by
  obtain ⟨ab, c⟩ := Bool.and_eq_true_iff.mp h
  obtain ⟨a, b⟩ := Bool.and_eq_true_iff.mp ab
  exact ⟨of_decide_eq_true a, of_decide_eq_true b, of_decide_eq_true c⟩
theorem o_lt : OpJ Y (compareOp .Lt) gLt := (opj_B fun _ => op_lt).or (opj_ltS.or opj_ltT)
theorem o_le : OpJ Y (compareOp .LtE) gLe := (opj_B fun _ => op_le).or opj_leT
theorem o_gt : OpJ Y (compareOp .Gt) gGt := opj_B fun _ => op_gt
theorem o_ge : OpJ Y (compareOp .GtE) gGe := opj_B fun _ => op_ge
theorem o_eq : OpJ Y (compareOp .Eq) gEq := opj_eqS.or opj_eq
theorem o_ne : OpJ Y (compareOp .NotEq) gNe := opj_neS.or opj_ne
theorem o_in : OpJ Y (compareOp .In) gIn := opj_inD.or opj_inS
theorem o_notIn : OpJ Y (compareOp .NotIn) gNotInD := opj_notInD
theorem o_is : OpJ Y (compareOp .Is) gIs := opj_isN.or (opj_isB.or opj_isX)
theorem o_isNot : OpJ Y (compareOp .IsNot) gNot := opj_notN.or (opj_notB.or opj_notX)
end
end Fj

set_option Elab.async false
set_option linter.all false
set_option maxRecDepth 100000
set_option maxHeartbeats 4000000
set_option autoImplicit false
/-! Rows of arguments, displays, places, parts, built-ins. -/
namespace Fj
open PySem PySem.Spec PyProof.Rows L2

def tms : List V → List PyData → Tm
  | v :: vs, d :: ds => tms vs ds ++ [(v, .val d)]
  | _, _ => []
abbrev MA := En → Option (List PyData × En)
def PostA (K : PySem.W.Frag) (c : Ct) (σ : L2.St) (T : Tm) (r : Option (List PyData × En)) (Q : List V → Hp → Prop) : Prop := match r with
  | none => False
  | some (ds, ρ) => ∀ vs H, vs.length = ds.length → Rel K c σ ρ (tms vs ds ++ T) H → Q vs H
def SemA (K : PySem.W.Frag) (t : TA) (m : MA) : Prop := ∀ (c : Ct) (σ : L2.St) (ρ : En) (T : Tm) (H : Hp) (Q : List V → Hp → Prop), Rel K c σ ρ T H → PostA K c σ T (m ρ) Q → t σ H Q
def JA (Y : Fam) (es : List Expr) (m : MA) : Prop := ∃ t, (∀ i, PA (Y.X i) es t) ∧ SemA Y.K t m
def mNil : MA := fun ρ => some ([], ρ)
def mCons (m : MV) (n : MA) : MA := fun ρ => match m ρ with
  | none => none
  | some (d, ρ) => match n ρ with
    | none => none
    | some (ds, ρ) => some (d :: ds, ρ)
section
variable {K : PySem.W.Frag} {c : Ct} {σ : L2.St} {ρ : En} {T : Tm} {H F : Hp} {fp : List Addr}
theorem RelF.tms {vs : List V} {ds : List PyData} (r : RelF K c σ ρ (Fj.tms vs ds ++ T) H F fp) (h : vs.length = ds.length) : Rps K F vs ds ∧ RelF K c σ ρ T H F fp := by
  induction ds generalizing vs T with
  | nil =>
    have : vs = [] := List.eq_nil_of_length_eq_zero h
    subst this
    exact ⟨.nil, r⟩
  | cons d ds ih =>
    cases vs with
    | nil => cases h
    | cons v vs =>
      have r' : RelF K c σ ρ (Fj.tms vs ds ++ ((v, .val d) :: T)) H F fp := by
        have e : Fj.tms (v :: vs) (d :: ds) ++ T = Fj.tms vs ds ++ ((v, .val d) :: T) := by
          show (Fj.tms vs ds ++ [(v, .val d)]) ++ T = _
          rw [List.append_assoc]
          rfl
        rw [← e]
        exact r
      obtain ⟨a, b⟩ := ih r' (Nat.succ.inj h)
      exact ⟨.cons b.top a, b.popV⟩
theorem Rel.tms {vs : List V} {ds : List PyData} (r : Rel K c σ ρ (Fj.tms vs ds ++ T) H) (h : vs.length = ds.length) : Rps K H vs ds ∧ Rel K c σ ρ T H := by
  obtain ⟨F, fp, f⟩ := r
  obtain ⟨a, b⟩ := f.tms h
  exact ⟨a.mono b.fh, F, fp, b⟩
end
section
variable {Y : Fam} {e a b : Expr} {es : List Expr} {pos : Pos}
theorem a_nil : JA Y [] mNil := ⟨tNil, fun _ => pa_nil, fun _ _ _ _ H _ r q => q [] H rfl r⟩
theorem a_cons {m : MV} {n : MA} (h : JV Y e m) (g : JA Y es n) (hs : ∀ j, starEach (e :: es) (Y.X j).env = (false, eval e (Y.X j).env) :: starEach es (Y.X j).env := by intro _; rfl) : JA Y (e :: es) (mCons m n) := by
  obtain ⟨t, p, s⟩ := h
  obtain ⟨u, p', s'⟩ := g
  refine ⟨tCons t u, fun j => pa_cons (p j) (p' j) (hs j), fun c σ ρ T H Q r q => s c σ ρ T H _ r ?_⟩
  unfold mCons at q
  cases hm : m ρ with
  | none =>
    rw [hm] at q
    exact q
  | some z =>
    obtain ⟨d, ρ1⟩ := z
    rw [hm] at q
    simp only at q
    intro v H1 r1
    refine s' c σ ρ1 _ H1 _ r1 ?_
    cases hn : n ρ1 with
    | none =>
      rw [hn] at q
      exact q
    | some z =>
      obtain ⟨ds, ρ2⟩ := z
      rw [hn] at q
      intro vs H2 hl r2
      refine q (v :: vs) H2 (congrArg Nat.succ hl) ?_
      show Rel Y.K c σ ρ2 ((tms vs ds ++ [(v, .val d)]) ++ T) H2
      rw [List.append_assoc]
      exact r2
/-! ### displays -/
def mTup (n : MA) : MV := fun ρ => match n ρ with
  | none => none
  | some (ds, ρ) => if ds.length ≤ 100000 then some (.tuple ds, ρ) else none
def mLst (n : MA) : MO := fun ρ => match n ρ with
  | none => none
  | some (ds, ρ) => if ds.length ≤ 100000 then some (.own true (.lst ds), ρ) else none
theorem j_tup {n : MA} {x1 : Nat} (h : JA Y es n) : JV Y (.Tuple es x1 pos) (mTup n) := by
  obtain ⟨t, p, s⟩ := h
  refine ⟨tTup t, fun j => pe_tup (p j), fun c σ ρ T H Q r q => s c σ ρ T H _ r ?_⟩
  unfold mTup at q
  cases hn : n ρ with
  | none =>
    rw [hn] at q
    exact q
  | some z =>
    obtain ⟨ds, ρ1⟩ := z
    rw [hn] at q
    simp only at q
    split at q
    · rename_i hl
      intro vs H1 hv r1
      refine ⟨sz5 (by omega), fun p hp => q _ _ ?_⟩
      obtain ⟨F, fp, f⟩ := r1
      obtain ⟨x, y⟩ := f.tms hv
      exact y.tupNew hp x
    · exact q.elim
theorem j_lst {n : MA} (h : JA Y es n) : JO Y (.List es pos) (mLst n) := by
  obtain ⟨t, p, s⟩ := h
  refine ⟨tLst t, fun j => pe_lst (p j), fun c σ ρ T H Q r q => s c σ ρ T H _ r ?_⟩
  unfold mLst at q
  cases hn : n ρ with
  | none =>
    rw [hn] at q
    exact q
  | some z =>
    obtain ⟨ds, ρ1⟩ := z
    rw [hn] at q
    simp only at q
    split at q
    · rename_i hl
      intro vs H1 hv r1
      refine ⟨sz5 (by omega), fun p hp => q _ _ ?_⟩
      obtain ⟨F, fp, f⟩ := r1
      obtain ⟨x, y⟩ := f.tms hv
      exact y.lstNew hp x
    · exact q.elim
/-- lists together: a new list -/
def mCat (ma mb : MV) : MO := fun ρ => match ma ρ with
  | none => none
  | some (x, ρ) => match mb ρ with
    | none => none
    | some (y, ρ) => match x, y with
      | .list xs, .list ys => if xs.length + ys.length ≤ 100000 then some (.own true (.lst (xs ++ ys)), ρ) else none
      | _, _ => none
theorem Rp.lstAt {K : PySem.W.Frag} {F : Hp} {v : V} {xs : List PyData} (h : Rp K F v (.list xs)) : ∃ a vs, v = .ref a ∧ F a = some (.lst vs) ∧ Rps K F vs xs := by
  cases h with
  | lst h r => exact ⟨_, _, rfl, h, r⟩
theorem Rp.tupAt {K : PySem.W.Frag} {F : Hp} {v : V} {xs : List PyData} (h : Rp K F v (.tuple xs)) : ∃ a vs, v = .ref a ∧ SqT K F a vs ∧ Rps K F vs xs := by
  cases h with
  | tup h r => exact ⟨_, _, rfl, h, r⟩
theorem j_cat {ma mb : MV} (ha : JV Y a ma) (hb : JV Y b mb) : JO Y (.BinOp a .Add b pos) (mCat ma mb) := by
  obtain ⟨ta, pa, sa⟩ := ha
  obtain ⟨tb, pb, sb⟩ := hb
  refine ⟨tOp rCat ta tb, fun j => pe_op op_cat (pa j) (pb j), fun c σ ρ T H Q re q => ?_⟩
  unfold mCat at q
  split at q
  · exact q.elim
  · rename_i x ρ1 e1
    split at q
    · exact q.elim
    · rename_i y ρ2 e2
      split at q
      · rename_i xs ys
        split at q
        · rename_i hl
          refine sem_bin sa sb re ⟨_, ρ1, _, ρ2, e1, e2, fun vx vy H2 r2 => ?_⟩
          obtain ⟨F, fp, f⟩ := r2
          obtain ⟨b', ws, rfl, hb', rb⟩ := f.top.lstAt
          obtain ⟨a', us, rfl, ha', ra⟩ := f.popV.top.lstAt
          have la := ra.length
          have lb := rb.length
          exact ⟨a', b', us, ws, rfl, rfl, f.fh _ _ ha', f.fh _ _ hb', sz5 (by omega), fun p hp => q _ _ (f.popV.popV.lstNew hp (ra.app rb))⟩
        · exact q.elim
      · exact q.elim
/-! ### places -/
theorem Rps.atI {K : PySem.W.Frag} {F : Hp} {vs : List V} {ds : List PyData} {i : Int} {d : PyData} (h : Rps K F vs ds) (e : L2.atI ds i = some d) : ∃ v, L2.atI vs i = some v ∧ Rp K F v d := by
  unfold L2.atI at e ⊢
  rw [h.length]
  cases hn : ixN ds.length i with
  | none =>
    rw [hn] at e
    cases e
  | some j =>
    rw [hn] at e
    exact h.get (i := j) e
def gIx : PyData → PyData → Option PyData
  | .list ds, .int i => L2.atI ds i
  | .tuple ds, .int i => L2.atI ds i
  | .str z, .int i => if z.length ≤ 100000 then (L2.atI z.cps.toList i).map fun k => .str ⟨#[k]⟩ else none
  | _, _ => none
theorem j_ix {ma mb : MV} (ha : JV Y a ma) (hb : JV Y b mb) (hs : PlainIx b := by intro _ _; rfl) : JV Y (.Subscript a b pos) (mBin gIx ma mb) := by
  obtain ⟨ta, pa, sa⟩ := ha
  obtain ⟨tb, pb, sb⟩ := hb
  refine ⟨tOp (rIx Y.K) ta tb, fun j => by rw [← Y.hK j]; exact pe_ix ix_seq (pa j) (pb j) hs, fun c σ ρ T H Q re q => ?_⟩
  obtain ⟨x, ρ1, y, ρ2, z, e1, e2, hg, q⟩ := bin_inv q
  refine sem_bin sa sb re ⟨x, ρ1, y, ρ2, e1, e2, fun vx vy H2 r2 => ?_⟩
  unfold gIx at hg
  split at hg
  · rename_i ds i
    have hy := r2.intTop
    obtain ⟨F, fp, f⟩ := r2
    obtain ⟨p, us, rfl, h1, h2⟩ := f.popV.top.lstAt
    obtain ⟨v, hv, rv⟩ := h2.atI hg
    subst hy
    exact .inl ⟨p, us, i, v, rfl, rfl, .inl (.inl (f.fh _ _ h1)), hv, q _ _ ⟨F, fp, f.popV.popV.push rv⟩⟩
  · rename_i ds i
    have hy := r2.intTop
    obtain ⟨F, fp, f⟩ := r2
    obtain ⟨p, us, rfl, h1, h2⟩ := f.popV.top.tupAt
    obtain ⟨v, hv, rv⟩ := h2.atI hg
    subst hy
    exact .inr (.inl ⟨p, us, i, v, rfl, rfl, same_tup f.fh h1, hv, q _ _ ⟨F, fp, f.popV.popV.push rv⟩⟩)
  · rename_i s i
    split at hg
    · rename_i hl
      have hy := r2.intTop
      have hx := r2.pop.strTop
      subst hx hy
      obtain ⟨k, hk, rfl⟩ := Option.map_eq_some_iff.mp hg
      exact .inr (.inr ⟨s, i, k, rfl, rfl, sz5 hl, hk, q _ _ (r2.pop2.pushS _)⟩)
    · cases hg
  · cases hg
/-! ### parts -/
abbrev MP := En → Option (Option Int × En)
def PostP (K : PySem.W.Frag) (c : Ct) (σ : L2.St) (T : Tm) (r : Option (Option Int × En)) (Q : Option Int → Hp → Prop) : Prop := match r with
  | none => False
  | some (o, ρ) => ∀ H', Rel K c σ ρ T H' → Q o H'
def SemP (K : PySem.W.Frag) (t : TO) (m : MP) : Prop := ∀ (c : Ct) (σ : L2.St) (ρ : En) (T : Tm) (H : Hp) (Q : Option Int → Hp → Prop), Rel K c σ ρ T H → PostP K c σ T (m ρ) Q → t σ H Q
def JP (Y : Fam) (e : Option Expr) (m : MP) : Prop := ∃ t, (∀ i, PO (Y.X i) e t) ∧ SemP Y.K t m
def mP0 : MP := fun ρ => some (none, ρ)
def mP1 (m : MV) : MP := fun ρ => match m ρ with
  | some (.int i, ρ) => some (some i, ρ)
  | _ => none
theorem p_none : JP Y none mP0 := ⟨tNoPart, fun _ => po_none, fun _ _ _ _ H _ r q => q H r⟩
theorem p_some {m : MV} (h : JV Y e m) : JP Y (some e) (mP1 m) := by
  obtain ⟨t, p, s⟩ := h
  refine ⟨tPart t, fun j => po_some (p j), fun c σ ρ T H Q r q => s c σ ρ T H _ r ?_⟩
  unfold mP1 at q
  split at q
  · rename_i i ρ1 e
    rw [e]
    intro v H1 r1
    have r1 : Rel Y.K c σ ρ1 ((v, .val (.int i)) :: T) H1 := r1
    exact ⟨i, r1.intTop, q H1 r1.pop⟩
  · exact q.elim
def cutD (xs : List PyData) (lo hi : Option Int) : List PyData := (xs.drop (HT.sIx xs.length 0 lo)).take (HT.sIx xs.length xs.length hi - HT.sIx xs.length 0 lo)
theorem Rps.cut {K : PySem.W.Frag} {F : Hp} {vs : List V} {ds : List PyData} (lo hi : Option Int) (h : Rps K F vs ds) : Rps K F (cutV vs lo hi) (cutD ds lo hi) := by
  unfold cutV cutD
  rw [h.length]
  exact (h.dropN _).takeN _
def gSl (d : PyData) (lo hi : Option Int) : Option Ent := match d with
  | .list ds => some (.own true (.lst (cutD ds lo hi)))
  | .tuple ds => some (.val (.tuple (cutD ds lo hi)))
  | .str z => if z.length ≤ 100000 then some (.val (.str (cutS z lo hi))) else none
  | _ => none
def mSl (m : MV) (l h : MP) : MO := fun ρ => match m ρ with
  | none => none
  | some (d, ρ) => match l ρ with
    | none => none
    | some (lo, ρ) => match h ρ with
      | none => none
      | some (hi, ρ) => (gSl d lo hi).map fun z => (z, ρ)
theorem cut_whole {ds : List PyData} {lo hi : Option Int} (h : HT.sIx ds.length 0 lo = 0 ∧ HT.sIx ds.length ds.length hi = ds.length) : cutD ds lo hi = ds := by
  unfold cutD
  rw [h.1, h.2]
  simp
theorem j_sl {m : MV} {l h : MP} {o1 o2 : Option Expr} {p2 : Pos} (he : JV Y e m) (hl : JP Y o1 l) (hh : JP Y o2 h) : JO Y (.Subscript e (.Slice o1 o2 none p2) pos) (mSl m l h) := by
  obtain ⟨t, p, s⟩ := he
  obtain ⟨tl, pl, s1⟩ := hl
  obtain ⟨th, ph, s2⟩ := hh
  refine ⟨tSl (fun x lo hi H Q => (rSlL Y.K x lo hi H Q ∨ rSlA Y.K x lo hi H Q) ∨ rSlS x lo hi H Q) t tl th, fun j => by rw [← Y.hK j]; exact pe_slice (SlR.or (SlR.or sl_list sl_tupA) sl_str) (p j) (pl j) (ph j), fun c σ ρ T H Q re q => s c σ ρ T H _ re ?_⟩
  unfold mSl at q
  cases hm : m ρ with
  | none =>
    rw [hm] at q
    exact q
  | some z =>
    obtain ⟨d, ρ1⟩ := z
    rw [hm] at q
    simp only at q
    intro v H1 r1
    refine s1 c σ ρ1 _ H1 _ r1 ?_
    cases hl1 : l ρ1 with
    | none =>
      rw [hl1] at q
      exact q
    | some z =>
      obtain ⟨lo, ρ2⟩ := z
      rw [hl1] at q
      simp only at q
      intro H2 r2
      refine s2 c σ ρ2 _ H2 _ r2 ?_
      cases hh1 : h ρ2 with
      | none =>
        rw [hh1] at q
        exact q
      | some z =>
        obtain ⟨hi, ρ3⟩ := z
        rw [hh1] at q
        simp only at q
        intro H3 r3
        unfold gSl at q
        split at q
        · obtain ⟨F, fp, f⟩ := r3
          obtain ⟨p, us, rfl, h1, h2⟩ := f.top.lstAt
          exact .inl (.inl ⟨p, us, rfl, .inl (.inl (f.fh _ _ h1)), fun p' hp => q _ _ (f.popV.lstNew hp (h2.cut lo hi))⟩)
        · rename_i ds
          obtain ⟨F, fp, f⟩ := r3
          obtain ⟨p, us, rfl, h1, h2⟩ := f.top.tupAt
          refine .inl (.inr ⟨p, us, rfl, same_tup f.fh h1, fun hw => ?_, fun hw p' hp => q _ _ (f.popV.tupNew hp (h2.cut lo hi))⟩)
          rw [h2.length] at hw
          rw [cut_whole hw] at q
          exact q _ _ ⟨F, fp, f⟩
        · rename_i z
          split at q
          · rename_i hz
            have hx := r3.strTop
            subst hx
            exact .inr ⟨z, rfl, sz5 hz, q _ _ (r3.pop.pushS _)⟩
          · exact q.elim
        · exact q.elim
/-- xs[::-1] -/
def mRev (m : MV) : MO := fun ρ => match m ρ with
  | some (.list ds, ρ) => some (.own true (.lst ds.reverse), ρ)
  | _ => none
theorem j_rev {m : MV} {k : Nat} {p1 p2 p3 : Pos} (he : JV Y e m) : JO Y (.Subscript e (.Slice none none (some (.UnaryOp .USub (.Constant (.int 1) k p1) p2)) p3) pos) (mRev m) := by
  obtain ⟨t, p, s⟩ := he
  refine ⟨tRevL Y.K t, fun j => by rw [← Y.hK j]; exact pe_revL (p j), fun c σ ρ T H Q re q => s c σ ρ T H _ re ?_⟩
  unfold mRev at q
  split at q
  · rename_i ds ρ1 e
    rw [e]
    intro v H1 r1
    obtain ⟨F, fp, f⟩ := r1
    obtain ⟨p, us, rfl, h1, h2⟩ := f.top.lstAt
    exact ⟨p, us, rfl, .inl (.inl (f.fh _ _ h1)), fun p' hp => q _ _ (f.popV.lstNew hp h2.rev)⟩
  · exact q.elim
/-- -i -/
def mNeg (m : MV) : MV := fun ρ => match m ρ with
  | some (.int i, ρ) => some (.int (-i), ρ)
  | _ => none
theorem j_neg {m : MV} (he : JV Y e m) : JV Y (.UnaryOp .USub e pos) (mNeg m) := by
  obtain ⟨t, p, s⟩ := he
  refine ⟨_, fun j => pe_un un_neg (p j), fun c σ ρ T H Q re q => s c σ ρ T H _ re ?_⟩
  unfold mNeg at q
  split at q
  · rename_i i ρ1 e
    rw [e]
    intro v H1 r1
    have r1 : Rel Y.K c σ ρ1 ((v, .val (.int i)) :: T) H1 := r1
    exact ⟨i, r1.intTop, q _ _ (r1.pop.pushI _)⟩
  · exact q.elim
/-- a part of the script -/
def mScrSl (i : Nat) (l h : MP) : MO := fun ρ => match ρ[i]? with
  | some (.scr ns) => match l ρ with
    | none => none
    | some (lo, ρ) => match h ρ with
      | none => none
      | some (hi, ρ) => some (.own true (.lst (cutD (ns.map .int) lo hi)), ρ)
  | _ => none
theorem Rel.scrAt {K : PySem.W.Frag} {c : Ct} {σ : L2.St} {ρ : En} {T : Tm} {H : Hp} {i : Nat} {ns : List Int} (r : Rel K c σ ρ T H) (he : ρ[i]? = some (.scr ns)) : ∃ a, σ[i]? = some (some (.ref a)) ∧ SqL K c.H0 a (ns.map V.int) ∧ ¬ c.W a := by
  obtain ⟨F, fp, r⟩ := r
  have hi : i < σ.length := by
    rw [r.len]
    exact (List.getElem?_eq_some_iff.mp he).1
  obtain ⟨f1, fc, f2, e2, f3, f4⟩ := Slots.place (i := T.length + i) r.sl (x := (σ[i], .scr ns)) (by
    rw [List.getElem?_append_right (by simp [tmp])]
    simp only [tmp, List.length_map, Nat.add_sub_cancel_left]
    exact zip_at (List.getElem?_eq_getElem hi) he)
  generalize hs : σ[i] = s at f3
  cases f3 with
  | @scr a _ q w => exact ⟨a, by rw [List.getElem?_eq_getElem hi, hs], q, w⟩
theorem Rel.scrSq {K : PySem.W.Frag} {c : Ct} {σ : L2.St} {ρ : En} {T : Tm} {H : Hp} {a : Addr} {xs : List V} (r : Rel K c σ ρ T H) (h : SqL K c.H0 a xs) (w : ¬ c.W a) : SqL K H a xs := by
  obtain ⟨F, fp, r⟩ := r
  rcases h with (h | ⟨o, h⟩) | h
  · exact .inl (.inl (r.keep _ _ h w))
  · exact .inl (.inr ⟨o, r.keep _ _ h w⟩)
  · exact .inr h
theorem j_scrSl (i : Nat) {x : Str} {l h : MP} {o1 o2 : Option Expr} {p2 p3 : Pos} (hl : JP Y o1 l) (hh : JP Y o2 h) (hN : ∀ j, (Y.X j).N[i]? = some x := by intro _; rfl) (hv : ∀ j, Vis (Y.X j).env.scope x := by first | exact fun _ => Or.inl rfl | exact fun _ => Or.inr (Or.inl rfl) | exact fun _ => Or.inr (Or.inr rfl)) (hd : (x == ("__debug__" : Str)) = false := by decide)
    (hcd : (x == ("__classdict__" : Str)) = false := by decide) : JO Y (.Subscript (.Name x p3) (.Slice o1 o2 none p2) pos) (mScrSl i l h) := by
  obtain ⟨tl, pl, s1⟩ := hl
  obtain ⟨th, ph, s2⟩ := hh
  refine ⟨tSl (rSlL Y.K) (tVar i) tl th, fun j => by rw [← Y.hK j]; exact pe_slice sl_list (pe_var (hN j) (hv j) hd hcd) (pl j) (ph j), fun c σ ρ T H Q re q => ?_⟩
  unfold mScrSl at q
  split at q
  · rename_i ns he
    obtain ⟨a, hv, hq, w⟩ := re.scrAt he
    refine ⟨_, hv, s1 c σ ρ T H _ re ?_⟩
    cases hl1 : l ρ with
    | none =>
      rw [hl1] at q
      exact q
    | some z =>
      obtain ⟨lo, ρ2⟩ := z
      rw [hl1] at q
      simp only at q
      intro H2 r2
      refine s2 c σ ρ2 _ H2 _ r2 ?_
      cases hh1 : h ρ2 with
      | none =>
        rw [hh1] at q
        exact q
      | some z =>
        obtain ⟨hi, ρ3⟩ := z
        rw [hh1] at q
        simp only at q
        intro H3 r3
        refine ⟨a, _, rfl, r3.scrSq hq w, fun p hp => q _ _ ?_⟩
        obtain ⟨F, fp, f⟩ := r3
        exact f.lstNew hp (Rps.ofInts.cut lo hi)
  · exact q.elim
/-! ### calls of built-ins -/
def CallJ (Y : Fam) (f : Value) (g : List PyData → Option Ent) : Prop := ∃ r : List V → Hp → VK → Prop, (∀ j, CallR (Y.X j) f r) ∧
  ∀ (c : Ct) (σ : L2.St) (ρ : En) (T : Tm) (H : Hp) (vs : List V) (ds : List PyData) (z : Ent) (Q : VK), vs.length = ds.length → Rel Y.K c σ ρ (tms vs ds ++ T) H → g ds = some z → (∀ v H', Rel Y.K c σ ρ ((v, z) :: T) H' → Q v H') → r vs H Q
def mCB (g : List PyData → Option Ent) (n : MA) : MO := fun ρ => match n ρ with
  | none => none
  | some (ds, ρ) => (g ds).map fun z => (z, ρ)
theorem sem_cb {f : Value} {g : List PyData → Option Ent} {n : MA} {r : List V → Hp → VK → Prop} {t : TA} (s : SemA Y.K t n) (hs : ∀ (c : Ct) (σ : L2.St) (ρ : En) (T : Tm) (H : Hp) (vs : List V) (ds : List PyData) (z : Ent) (Q : VK), vs.length = ds.length → Rel Y.K c σ ρ (tms vs ds ++ T) H → g ds = some z → (∀ v H', Rel Y.K c σ ρ ((v, z) :: T) H' → Q v H') → r vs H Q) :
    SemO Y.K (tCB r t) (mCB g n) := fun c σ ρ T H Q re q => by
  refine s c σ ρ T H _ re ?_
  unfold mCB at q
  cases hn : n ρ with
  | none =>
    rw [hn] at q
    exact q
  | some z =>
    obtain ⟨ds, ρ1⟩ := z
    rw [hn] at q
    simp only at q
    intro vs H1 hl r1
    cases hg : g ds with
    | none =>
      rw [hg] at q
      exact q.elim
    | some w =>
      rw [hg] at q
      exact hs c σ ρ1 T H1 vs ds w Q hl r1 hg q
theorem j_callB {x : Str} {id : String} {g : List PyData → Option Ent} {n : MA} {p : Pos} (hc : CallJ Y (.builtin id) g) (hm : Y.mg x = none) (ha : JA Y (e :: es) n) (hv : bootBuiltins x = some (.builtin id) := by decide +kernel) (hg : ∀ j, Gl (Y.X j) x := by intro _; rfl) (hn : x ≠ "__name__" := by decide) (hdb : (x == ("__debug__" : Str)) = false := by decide)
    (he : ∀ j, starEach (e :: es) (Y.X j).env = (false, eval e (Y.X j).env) :: starEach es (Y.X j).env := by intro _; rfl) (hpl : ∀ j, (backTo pos (starEach es (Y.X j).env)).any (·.1) = false := by intro _; rfl) : JO Y (.Call (.Name x p) (e :: es) [] pos) (mCB g n) := by
  obtain ⟨r, o, hs⟩ := hc
  obtain ⟨t, pa, s⟩ := ha
  exact ⟨tCB r t, fun j => pe_callB (o j) (hg j) (by rw [Y.hmg j]; exact hm) hv (pa j) hn hdb (he j) (hpl j), sem_cb (f := .builtin id) s hs⟩
theorem j_callT {x : Str} {id : String} {g : List PyData → Option Ent} {n : MA} {p : Pos} (hc : CallJ Y (.type id) g) (hm : Y.mg x = none) (ha : JA Y (e :: es) n) (hv : bootBuiltins x = some (.type id) := by decide +kernel) (hg : ∀ j, Gl (Y.X j) x := by intro _; rfl) (hn : x ≠ "__name__" := by decide) (hdb : (x == ("__debug__" : Str)) = false := by decide)
    (he : ∀ j, starEach (e :: es) (Y.X j).env = (false, eval e (Y.X j).env) :: starEach es (Y.X j).env := by intro _; rfl) (hpl : ∀ j, (backTo pos (starEach es (Y.X j).env)).any (·.1) = false := by intro _; rfl) : JO Y (.Call (.Name x p) (e :: es) [] pos) (mCB g n) := by
  obtain ⟨r, o, hs⟩ := hc
  obtain ⟨t, pa, s⟩ := ha
  exact ⟨tCB r t, fun j => pe_callTy (o j) (hg j) (by rw [Y.hmg j]; exact hm) hv (pa j) hn hdb (he j) (hpl j), sem_cb (f := .type id) s hs⟩
theorem len1 {vs : List V} {d : PyData} (h : vs.length = [d].length) : ∃ v, vs = [v] := by
  cases vs with
  | nil => cases h
  | cons v vs =>
    cases vs with
    | nil => exact ⟨v, rfl⟩
    | cons w vs => cases h
theorem len2 {vs : List V} {d d' : PyData} (h : vs.length = [d, d'].length) : ∃ v w, vs = [v, w] := by
  cases vs with
  | nil => cases h
  | cons v vs =>
    cases vs with
    | nil => cases h
    | cons w vs =>
      cases vs with
      | nil => exact ⟨v, w, rfl⟩
      | cons u vs => cases h
def gLen : List PyData → Option Ent
  | [.list ds] => some (.val (.int ds.length))
  | [.tuple ds] => some (.val (.int ds.length))
  | [.str z] => if z.length ≤ 100000 then some (.val (.int z.length)) else none
  | _ => none
theorem c_len : CallJ Y (.builtin "len") gLen := by
  refine ⟨fun xs H Q => (∃ p ys, xs = [.ref p] ∧ (SqL Y.K H p ys ∨ SqT Y.K H p ys) ∧ Q (.int ys.length) H) ∨ (∃ z, xs = [.str z] ∧ z.length ≤ sizeLine ∧ Q (.int z.length) H), fun j => by rw [← Y.hK j]; exact CallR.or call_len_seq call_len_str, fun c σ ρ T H vs ds z Q hl r e q => ?_⟩
  · unfold gLen at e
    split at e
    · cases e
      obtain ⟨v, rfl⟩ := len1 hl
      obtain ⟨F, fp, f⟩ := r
      have f : RelF Y.K c σ ρ ((v, .val (.list _)) :: T) H F fp := f
      obtain ⟨p, us, rfl, h1, h2⟩ := f.top.lstAt
      refine .inl ⟨p, us, rfl, .inl (.inl (.inl (f.fh _ _ h1))), ?_⟩
      rw [h2.length]
      exact q _ _ (Rel.pushI ⟨F, fp, f.popV⟩ _)
    · cases e
      obtain ⟨v, rfl⟩ := len1 hl
      obtain ⟨F, fp, f⟩ := r
      have f : RelF Y.K c σ ρ ((v, .val (.tuple _)) :: T) H F fp := f
      obtain ⟨p, us, rfl, h1, h2⟩ := f.top.tupAt
      refine .inl ⟨p, us, rfl, .inr (same_tup f.fh h1), ?_⟩
      rw [h2.length]
      exact q _ _ (Rel.pushI ⟨F, fp, f.popV⟩ _)
    · split at e
      · rename_i hz
        cases e
        obtain ⟨v, rfl⟩ := len1 hl
        have r : Rel Y.K c σ ρ ((v, .val (.str _)) :: T) H := r
        have hx := r.strTop
        subst hx
        exact .inr ⟨_, rfl, sz5 hz, q _ _ (r.pop.pushI _)⟩
      · cases e
    · cases e
def gInt : List PyData → Option Ent
  | [.int i] => some (.val (.int i))
  | [.bool k] => some (.val (.int (if k then 1 else 0)))
  | _ => none
theorem c_int : CallJ Y (.type "int") gInt := by
  refine ⟨_, fun j => call_int1, fun c σ ρ T H vs ds z Q hl r e q => ?_⟩
  unfold gInt at e
  split at e
  · cases e
    obtain ⟨v, rfl⟩ := len1 hl
    have r : Rel Y.K c σ ρ ((v, .val (.int _)) :: T) H := r
    have hx := r.intTop
    subst hx
    exact .inl ⟨_, rfl, q _ _ r⟩
  · cases e
    obtain ⟨v, rfl⟩ := len1 hl
    have r : Rel Y.K c σ ρ ((v, .val (.bool _)) :: T) H := r
    have hx := r.boolTop
    subst hx
    exact .inr ⟨_, rfl, q _ _ (r.pop.pushI _)⟩
  · cases e
def gMax2 : List PyData → Option Ent
  | [.int i, .int j] => some (.val (.int (if j > i then j else i)))
  | _ => none
theorem c_max2 : CallJ Y (.builtin "max") gMax2 := by
  refine ⟨_, fun j => call_max2 (Y.calm j), fun c σ ρ T H vs ds z Q hl r e q => ?_⟩
  unfold gMax2 at e
  split at e
  · cases e
    obtain ⟨v, w, rfl⟩ := len2 hl
    have r : Rel Y.K c σ ρ ((w, .val (.int _)) :: (v, .val (.int _)) :: T) H := r
    have hx := r.intTop
    have hy := r.pop.intTop
    subst hx hy
    exact ⟨_, _, rfl, q _ _ (r.pop2.pushI _)⟩
  · cases e
def gMin2 : List PyData → Option Ent
  | [.int i, .int j] => some (.val (.int (if j < i then j else i)))
  | _ => none
theorem c_min2 : CallJ Y (.builtin "min") gMin2 := by
  refine ⟨_, fun j => call_min2 (Y.calm j), fun c σ ρ T H vs ds z Q hl r e q => ?_⟩
  unfold gMin2 at e
  split at e
  · cases e
    obtain ⟨v, w, rfl⟩ := len2 hl
    have r : Rel Y.K c σ ρ ((w, .val (.int _)) :: (v, .val (.int _)) :: T) H := r
    have hx := r.intTop
    have hy := r.pop.intTop
    subst hx hy
    exact ⟨_, _, rfl, q _ _ (r.pop2.pushI _)⟩
  · cases e
def gAll : List PyData → Option Ent
  | [.list ds] => (boolsD ds).map fun bs => .val (.bool (bs.all id))
  | _ => none
def gAny : List PyData → Option Ent
  | [.list ds] => (boolsD ds).map fun bs => .val (.bool (bs.any id))
  | _ => none
def gSum : List PyData → Option Ent
  | [.list ds] => (intsD ds).map fun bs => .val (.int bs.sum)
  | _ => none
theorem c_all : CallJ Y (.builtin "all") gAll := by
  refine ⟨rAll Y.K, fun j => by rw [← Y.hK j]; exact cr_all (Y.calm j), fun c σ ρ T H vs ds z Q hl r e q => ?_⟩
  unfold gAll at e
  split at e
  · obtain ⟨bs, hb, rfl⟩ := Option.map_eq_some_iff.mp e
    have := boolsD_eq hb
    subst this
    obtain ⟨v, rfl⟩ := len1 hl
    obtain ⟨F, fp, f⟩ := r
    have f : RelF Y.K c σ ρ ((v, .val (.list _)) :: T) H F fp := f
    obtain ⟨p, us, rfl, h1, h2⟩ := f.top.lstAt
    have := h2.bools
    subst this
    exact ⟨p, bs, rfl, .inl (.inl (f.fh _ _ h1)), q _ _ (Rel.pushB ⟨F, fp, f.popV⟩ _)⟩
  · cases e
theorem c_any : CallJ Y (.builtin "any") gAny := by
  refine ⟨rAny Y.K, fun j => by rw [← Y.hK j]; exact cr_any (Y.calm j), fun c σ ρ T H vs ds z Q hl r e q => ?_⟩
  unfold gAny at e
  split at e
  · obtain ⟨bs, hb, rfl⟩ := Option.map_eq_some_iff.mp e
    have := boolsD_eq hb
    subst this
    obtain ⟨v, rfl⟩ := len1 hl
    obtain ⟨F, fp, f⟩ := r
    have f : RelF Y.K c σ ρ ((v, .val (.list _)) :: T) H F fp := f
    obtain ⟨p, us, rfl, h1, h2⟩ := f.top.lstAt
    have := h2.bools
    subst this
    exact ⟨p, bs, rfl, .inl (.inl (f.fh _ _ h1)), q _ _ (Rel.pushB ⟨F, fp, f.popV⟩ _)⟩
  · cases e
theorem c_sum : CallJ Y (.builtin "sum") gSum := by
  refine ⟨rSum Y.K, fun j => by rw [← Y.hK j]; exact cr_sum (Y.calm j), fun c σ ρ T H vs ds z Q hl r e q => ?_⟩
  unfold gSum at e
  split at e
  · obtain ⟨bs, hb, rfl⟩ := Option.map_eq_some_iff.mp e
    have := intsD_eq hb
    subst this
    obtain ⟨v, rfl⟩ := len1 hl
    obtain ⟨F, fp, f⟩ := r
    have f : RelF Y.K c σ ρ ((v, .val (.list _)) :: T) H F fp := f
    obtain ⟨p, us, rfl, h1, h2⟩ := f.top.lstAt
    have := h2.nums
    subst this
    exact ⟨p, bs, rfl, .inl (.inl (f.fh _ _ h1)), q _ _ (Rel.pushI ⟨F, fp, f.popV⟩ _)⟩
  · cases e
def gList : List PyData → Option Ent
  | [.list ds] => some (.own true (.lst ds))
  | [.tuple ds] => some (.own true (.lst ds))
  | _ => none
def gTuple : List PyData → Option Ent
  | [.list ds] => some (.val (.tuple ds))
  | [.tuple ds] => some (.val (.tuple ds))
  | _ => none
theorem c_list : CallJ Y (.type "list") gList := by
  refine ⟨fun xs H Q => ∃ p ys, xs = [.ref p] ∧ (SqL Y.K H p ys ∨ SqT Y.K H p ys) ∧ ∀ l, H l = none → Q (.ref l) (upd H l (.lst ys)), fun j => by rw [← Y.hK j]; exact call_list_of, fun c σ ρ T H vs ds z Q hl r e q => ?_⟩
  unfold gList at e
  split at e
  · cases e
    obtain ⟨v, rfl⟩ := len1 hl
    obtain ⟨F, fp, f⟩ := r
    have f : RelF Y.K c σ ρ ((v, .val (.list _)) :: T) H F fp := f
    obtain ⟨p, us, rfl, h1, h2⟩ := f.top.lstAt
    exact ⟨p, us, rfl, .inl (.inl (.inl (f.fh _ _ h1))), fun l hl => q _ _ (f.popV.lstNew hl h2)⟩
  · cases e
    obtain ⟨v, rfl⟩ := len1 hl
    obtain ⟨F, fp, f⟩ := r
    have f : RelF Y.K c σ ρ ((v, .val (.tuple _)) :: T) H F fp := f
    obtain ⟨p, us, rfl, h1, h2⟩ := f.top.tupAt
    exact ⟨p, us, rfl, .inr (same_tup f.fh h1), fun l hl => q _ _ (f.popV.lstNew hl h2)⟩
  · cases e
theorem c_tuple : CallJ Y (.type "tuple") gTuple := by
  refine ⟨fun xs H Q => ∃ p ys, xs = [.ref p] ∧ ((SqL Y.K H p ys ∧ ∀ l, H l = none → Q (.ref l) (upd H l (.tup ys))) ∨ (SqT Y.K H p ys ∧ Q (.ref p) H)), fun j => by rw [← Y.hK j]; exact call_tuple_of, fun c σ ρ T H vs ds z Q hl r e q => ?_⟩
  unfold gTuple at e
  split at e
  · cases e
    obtain ⟨v, rfl⟩ := len1 hl
    obtain ⟨F, fp, f⟩ := r
    have f : RelF Y.K c σ ρ ((v, .val (.list _)) :: T) H F fp := f
    obtain ⟨p, us, rfl, h1, h2⟩ := f.top.lstAt
    exact ⟨p, us, rfl, .inl ⟨.inl (.inl (f.fh _ _ h1)), fun l hl => q _ _ (f.popV.tupNew hl h2)⟩⟩
  · cases e
    obtain ⟨v, rfl⟩ := len1 hl
    obtain ⟨F, fp, f⟩ := r
    have f : RelF Y.K c σ ρ ((v, .val (.tuple _)) :: T) H F fp := f
    obtain ⟨p, us, rfl, h1, h2⟩ := f.top.tupAt
    exact ⟨p, us, rfl, .inr ⟨same_tup f.fh h1, q _ _ ⟨F, fp, f⟩⟩⟩
  · cases e
/-- repr of data -/
def gRepr : List PyData → Option Ent
  | [d] => if d.showable && SeqAt.shaped d && decide (d.shown.length ≤ 100000) then some (.val (.str d.shown)) else none
  | _ => none
def rReprD (K : PySem.W.Frag) : List V → Hp → VK → Prop := fun xs H Q => ∃ x d, xs = [x] ∧ Dp K H x d ∧ d.showable = true ∧ SeqAt.shaped d = true ∧ d.shown.length ≤ sizeLine ∧ Q (.str d.shown) H
end
end Fj

set_option Elab.async false
set_option linter.all false
set_option maxRecDepth 100000
set_option maxHeartbeats 4000000
set_option autoImplicit false
/-! repr, isinstance; what is walked; targets; statements, loops, comprehensions; lists that a def owns. -/
namespace Fj
open PySem PySem.Spec PyProof.Rows L2

/-! ### repr -/
theorem cr_reprD {X : Cx} {k : Nat} (gd : X.A.guards = some []) (hr : Room k X.A) : CallR X (.builtin "repr") (rReprD X.K) := fun pins s σ H xs us Q I r h => by
  obtain ⟨x, d, rfl, hd, h1, h2, h3, q⟩ := h
  obtain ⟨u, rfl, ru⟩ := vals1 r
  obtain ⟨as, rd⟩ := Dp.reads I d x u hd ru
  have hu := units65 hr
  have hdep : d.depth ≤ 64 := of_decide_eq_true (Bool.and_eq_true_iff.mp h2).2
  cases d with
  | none =>
    cases hd
    cases (show u = Value.none from ru)
    exact PySem.P.repr_of_none ⟨.str _, H, I.tok _, ⟨_, rfl⟩, by simpa only [PyData.shown] using q⟩
  | bool b =>
    cases hd
    cases (show u = Value.bool b from ru)
    exact PySem.P.repr_of_bool ⟨.str _, H, I.tok _, ⟨_, rfl⟩, by simpa only [PyData.shown] using q⟩
  | int i =>
    cases hd
    obtain ⟨t, rfl⟩ := (show ∃ t, u = Value.int i t from ru)
    exact PySem.P.repr_of_int (by simpa only [PyData.showable, decide_eq_true_eq] using h1) ⟨.str _, H, I.tok _, ⟨_, rfl⟩, by simpa only [PyData.shown] using q⟩
  | str z =>
    cases hd
    obtain ⟨t, rfl⟩ := (show ∃ t, u = Value.str z t from ru)
    exact PySem.P.repr_of_str ⟨.str _, H, I.tok _, ⟨_, rfl⟩, by simpa only [PyData.shown] using q⟩ (by simpa only [PyData.shown] using h3)
  | list ds =>
    cases hd with
    | lst hs ha =>
      cases (show u = Value.ref _ from ru)
      exact repr_of_reads' rd h1 (PyData.noDict_hsm (PyData.hasDict_of_canLay _ (SeqAt.canLay_of_shaped h2))) gd (by omega) (fun _ _ z => z) (fun h' u tk hk => ⟨.str _, H, I.kept (h' := h') (t' := tk) hk, ⟨_, rfl⟩, q⟩) h3
  | tuple ds =>
    cases hd with
    | tup hs ha =>
      cases (show u = Value.ref _ from ru)
      exact repr_of_reads' rd h1 (PyData.noDict_hsm (PyData.hasDict_of_canLay _ (SeqAt.canLay_of_shaped h2))) gd (by omega) (fun _ _ z => z) (fun h' u tk hk => ⟨.str _, H, I.kept (h' := h') (t' := tk) hk, ⟨_, rfl⟩, q⟩) h3
  | dict _ => cases hd
section
variable {Y : Fam} {e a b : Expr} {es : List Expr} {pos : Pos}
theorem c_repr : CallJ Y (.builtin "repr") gRepr := by
  refine ⟨rReprD Y.K, fun j => by rw [← Y.hK j]; exact cr_reprD (Y.gd j) (Y.room j), fun c σ ρ T H vs ds z Q hl r e q => ?_⟩
  unfold gRepr at e
  split at e
  · rename_i d
    split at e
    · rename_i hs
      cases e
      obtain ⟨h12, h3⟩ := Bool.and_eq_true_iff.mp hs
      obtain ⟨h1, h2⟩ := Bool.and_eq_true_iff.mp h12
      obtain ⟨v, rfl⟩ := len1 hl
      have r : Rel Y.K c σ ρ ((v, .val d) :: T) H := r
      exact ⟨v, d, rfl, r.top.dp (SeqAt.canLay_of_shaped h2), h1, h2, sz5 (of_decide_eq_true h3), q _ _ (r.pop.pushS _)⟩
    · cases e
  · cases e
/-! ### isinstance(x, T), T a built-in type -/
def tyN : PyData → String
  | .none => "NoneType"
  | .bool _ => "bool"
  | .int _ => "int"
  | .str _ => "str"
  | .list _ => "list"
  | .tuple _ => "tuple"
  | .dict _ => "dict"
theorem Rp.ty {K : PySem.W.Frag} {H : Hp} {v : V} {d : PyData} (h : Rp K H v d) : TyX K H v (.type (tyN d)) := by
  cases h with
  | non => exact .base .non
  | bl b => exact .base (.bl b)
  | int i => exact .base (.int i)
  | str x => exact .base (.str x)
  | lst h r => exact .base (.lst h)
  | dct h r => exact .base (.dK h)
  | tup h r =>
    rcases h with (h | ⟨o, h⟩) | ⟨o, its, n, h1, h2, _⟩
    · exact .base (.tup h)
    · exact .fTuple h
    · exact .kTuple h1 h2
def mIsi (T : String) (m : MV) : MV := fun ρ => match m ρ with
  | none => none
  | some (d, ρ) => (kitB (tyN d) T).map fun b => (.bool b, ρ)
theorem j_isi {m : MV} {x : Str} {T : String} {p p2 : Pos} (h : JV Y e m) (hi : Y.mg "isinstance" = none) (hm : Y.mg x = none) (hv : bootBuiltins x = some (.type T) := by decide +kernel) (hg : ∀ j, Gl (Y.X j) "isinstance" := by intro _; rfl) (hg2 : ∀ j, Gl (Y.X j) x := by intro _; rfl)
    (hn : x ≠ "__name__" := by decide) (hdb : (x == ("__debug__" : Str)) = false := by decide) (hs1 : ∀ j, starEach [e, .Name x p2] (Y.X j).env = (false, eval e (Y.X j).env) :: starEach [.Name x p2] (Y.X j).env := by intro _; rfl)
    (hs2 : ∀ j, starEach [.Name x p2] (Y.X j).env = (false, eval (.Name x p2) (Y.X j).env) :: starEach [] (Y.X j).env := by intro _; rfl) (hpl : ∀ j, (backTo pos (starEach [.Name x p2] (Y.X j).env)).any (·.1) = false := by intro _; rfl) : JV Y (.Call (.Name "isinstance" p) [e, .Name x p2] [] pos) (mIsi T m) := by
  obtain ⟨t, pa, s⟩ := h
  refine ⟨tCB (rIsi Y.K) (tCons t (tCons (tC (.ty T)) tNil)), fun j => by
    rw [← Y.hK j]
    exact pe_callB call_isi (hg j) (by rw [Y.hmg j]; exact hi) (by decide +kernel) (pa_cons (pa j) (pa_cons (pe_bltn (hg2 j) (by rw [Y.hmg j]; exact hm) hv rfl hn hdb) pa_nil (hs2 j)) (hs1 j)) (by decide) (by decide) (hs1 j) (hpl j), fun c σ ρ T' H Q re q => s c σ ρ T' H _ re ?_⟩
  unfold mIsi at q
  cases hm : m ρ with
  | none =>
    rw [hm] at q
    exact q
  | some z =>
    obtain ⟨d, ρ1⟩ := z
    rw [hm] at q
    simp only at q
    intro v H1 r1
    cases hk : kitB (tyN d) T with
    | none =>
      rw [hk] at q
      exact q.elim
    | some b =>
      rw [hk] at q
      exact ⟨v, .ty T, _, .type T, b, rfl, .ty T, r1.top.ty, kit_ty hk, q _ _ (r1.pop.pushB b)⟩
end

/-! ### what is walked -/
def Walk (K : PySem.W.Frag) (c : Ct) (J : It) (Tk : Tm) (ds : List PyData) : Prop := ∀ (σ : L2.St) (ρ : En) (T : Tm) (H : Hp), Rel K c σ ρ (Tk ++ T) H → ∀ i : Nat,
  (∀ d, ds[i]? = some d → J.go i H ∧ ∀ x H', J.yld i H x H' → Rel K c σ ρ ((x, .val d) :: (Tk ++ T)) H') ∧ (ds.length ≤ i → J.stop i H)
abbrev MI := En → Option (List PyData × En)
def PostI (K : PySem.W.Frag) (c : Ct) (σ : L2.St) (T : Tm) (r : Option (List PyData × En)) (R : It → Hp → Prop) : Prop := match r with
  | none => False
  | some (ds, ρ) => ∀ J Tk H, Walk K c J Tk ds → Rel K c σ ρ (Tk ++ T) H → R J H
def SemI (K : PySem.W.Frag) (wi : TI) (m : MI) : Prop := ∀ (c : Ct) (σ : L2.St) (ρ : En) (T : Tm) (H : Hp) (R : It → Hp → Prop), Rel K c σ ρ T H → PostI K c σ T (m ρ) R → wi σ H R
def JI (Y : Fam) (tg e : Expr) (m : MI) : Prop := ∃ wi, (∀ i, PI (Y.X i) tg e wi) ∧ SemI Y.K wi m
theorem pi_or {X : Cx} {tg e : Expr} {w1 w2 : TI} (h : PI X tg e w1) (g : PI X tg e w2) : PI X tg e (fun σ H R => w1 σ H R ∨ w2 σ H R) := ⟨fun pins s σ H R I z => z.elim (h.run pins s σ H R I) (g.run pins s σ H R I)⟩
section
variable {K : PySem.W.Frag} {c : Ct}
theorem walk_lst {a : Addr} {ds : List PyData} : Walk K c (Itl K a) [(.ref a, .val (.list ds))] ds := fun σ ρ T H r i => by
  obtain ⟨F, fp, f⟩ := r
  have f : RelF K c σ ρ ((.ref a, .val (.list ds)) :: T) H F fp := f
  obtain ⟨p, us, e, h1, h2⟩ := f.top.lstAt
  cases e
  have hq : SqL K H a us := .inl (.inl (f.fh _ _ h1))
  refine ⟨fun d hd => ?_, fun hl => ⟨us, hq, by rw [h2.length]; exact hl⟩⟩
  obtain ⟨v, hv, rv⟩ := h2.get hd
  refine ⟨⟨us, v, hq, hv⟩, fun x H' y => ?_⟩
  obtain ⟨rfl, y⟩ := y
  have := y us hq
  rw [hv] at this
  cases this
  exact ⟨F, fp, f.push rv⟩
theorem walk_tup {a : Addr} {ds : List PyData} : Walk K c (Itt K a) [(.ref a, .val (.tuple ds))] ds := fun σ ρ T H r i => by
  obtain ⟨F, fp, f⟩ := r
  have f : RelF K c σ ρ ((.ref a, .val (.tuple ds)) :: T) H F fp := f
  obtain ⟨p, us, e, h1, h2⟩ := f.top.tupAt
  cases e
  have hq : SqT K H a us := same_tup f.fh h1
  refine ⟨fun d hd => ?_, fun hl => ⟨us, hq, by rw [h2.length]; exact hl⟩⟩
  obtain ⟨v, hv, rv⟩ := h2.get hd
  refine ⟨⟨us, v, hq, hv⟩, fun x H' y => ?_⟩
  obtain ⟨rfl, y⟩ := y
  have := y us hq
  rw [hv] at this
  cases this
  exact ⟨F, fp, f.push rv⟩
def signsD (x : Str) : List PyData := x.cps.toList.map fun k => .str ⟨#[k]⟩
theorem walk_str {x : Str} : Walk K c (Its x) [] (signsD x) := fun σ ρ T H r i => by
  refine ⟨fun d hd => ?_, fun hl => ?_⟩
  · unfold signsD at hd
    rw [List.getElem?_map] at hd
    obtain ⟨k, hk, rfl⟩ := Option.map_eq_some_iff.mp hd
    have hk' : x.cps[i]? = some k := by
      rw [← Array.getElem?_toList]
      exact hk
    refine ⟨(Array.getElem?_eq_some_iff.mp hk').1, fun v H' y => ?_⟩
    obtain ⟨rfl, k2, h2, rfl⟩ := y
    rw [hk'] at h2
    cases h2
    exact r.pushS _
  · unfold signsD at hl
    rw [List.length_map, Array.length_toList] at hl
    exact hl
def rngD (lo : Int) (n : Nat) : List PyData := (List.range n).map fun i => .int (lo + (i : Nat))
theorem walk_rng {lo : Int} {n : Nat} : Walk K c (Itr lo n) [] (rngD lo n) := fun σ ρ T H r i => by
  refine ⟨fun d hd => ?_, fun hl => ?_⟩
  · unfold rngD at hd
    rw [List.getElem?_map] at hd
    obtain ⟨k, hk, rfl⟩ := Option.map_eq_some_iff.mp hd
    have hi : i < n := by
      have := (List.getElem?_eq_some_iff.mp hk).1
      simpa using this
    have : k = i := by
      rw [List.getElem?_range hi] at hk
      cases hk
      rfl
    subst this
    refine ⟨hi, fun v H' y => ?_⟩
    obtain ⟨rfl, rfl⟩ := y
    exact r.pushI _
  · unfold rngD at hl
    rw [List.length_map, List.length_range] at hl
    exact hl
def rngCD (lo st : Int) (n : Nat) : List PyData := (List.range n).map fun i => .int (lo + (i : Nat) * st)
theorem walk_rngC {lo st : Int} {n : Nat} : Walk K c (Itc lo st n) [] (rngCD lo st n) := fun σ ρ T H r i => by
  refine ⟨fun d hd => ?_, fun hl => ?_⟩
  · unfold rngCD at hd
    rw [List.getElem?_map] at hd
    obtain ⟨k, hk, rfl⟩ := Option.map_eq_some_iff.mp hd
    have hi : i < n := by
      have := (List.getElem?_eq_some_iff.mp hk).1
      simpa using this
    have : k = i := by
      rw [List.getElem?_range hi] at hk
      cases hk
      rfl
    subst this
    refine ⟨hi, fun v H' y => ?_⟩
    obtain ⟨rfl, rfl⟩ := y
    exact r.pushI _
  · unfold rngCD at hl
    rw [List.length_map, List.length_range] at hl
    exact hl
def enumD : Nat → List PyData → List PyData
  | _, [] => []
  | n, d :: ds => .tuple [.int (n : Nat), d] :: enumD (n + 1) ds
theorem enumD_get : ∀ (ds : List PyData) (n i : Nat), (enumD n ds)[i]? = (ds[i]?).map fun d => .tuple [.int ((n + i : Nat) : Int), d]
  | [], n, i => by simp [enumD]
  | d :: ds, n, 0 => by simp [enumD]
  | d :: ds, n, i + 1 => by
    show (enumD (n + 1) ds)[i]? = _
    rw [enumD_get ds (n + 1) i, List.getElem?_cons_succ]
    have : n + 1 + i = n + (i + 1) := by omega
    rw [this]
theorem enumD_length : ∀ (ds : List PyData) (n : Nat), (enumD n ds).length = ds.length
  | [], n => rfl
  | d :: ds, n => congrArg Nat.succ (enumD_length ds (n + 1))
theorem walk_enum {a : Addr} {ds : List PyData} : Walk K c (Ite K a) [(.ref a, .val (.list ds))] (enumD 0 ds) := fun σ ρ T H r i => by
  obtain ⟨F, fp, f⟩ := r
  have f : RelF K c σ ρ ((.ref a, .val (.list ds)) :: T) H F fp := f
  obtain ⟨p, us, e, h1, h2⟩ := f.top.lstAt
  cases e
  have hq : SqL K H a us := .inl (.inl (f.fh _ _ h1))
  refine ⟨fun d hd => ?_, fun hl => ⟨us, hq, by rw [h2.length, ← enumD_length ds 0]; exact hl⟩⟩
  rw [enumD_get, Nat.zero_add] at hd
  obtain ⟨d0, hd0, rfl⟩ := Option.map_eq_some_iff.mp hd
  obtain ⟨v, hv, rv⟩ := h2.get hd0
  refine ⟨⟨us, v, hq, hv⟩, fun x H' y => ?_⟩
  obtain ⟨tt, x', rfl, ht, rfl, y⟩ := y
  have := y us hq
  rw [hv] at this
  cases this
  exact f.tupNew ht (.cons (.int _) (.cons rv .nil))
def zipD (xs ys : List PyData) : List PyData := (xs.zip ys).map fun p => .tuple [p.1, p.2]
theorem walk_zip {a b : Addr} {xs ys : List PyData} : Walk K c (Itz K a b) [(.ref b, .val (.list ys)), (.ref a, .val (.list xs))] (zipD xs ys) := fun σ ρ T H r i => by
  obtain ⟨F, fp, f⟩ := r
  have f : RelF K c σ ρ ((.ref b, .val (.list ys)) :: (.ref a, .val (.list xs)) :: T) H F fp := f
  obtain ⟨p, us, e, h1, h2⟩ := f.top.lstAt
  cases e
  obtain ⟨p, ws, e, g1, g2⟩ := f.popV.top.lstAt
  cases e
  have hq : SqL K H b us := .inl (.inl (f.fh _ _ h1))
  have gq : SqL K H a ws := .inl (.inl (f.fh _ _ g1))
  refine ⟨fun d hd => ?_, fun hl => ⟨ws, us, gq, hq, ?_⟩⟩
  · unfold zipD at hd
    rw [List.getElem?_map] at hd
    obtain ⟨⟨d1, d2⟩, hp, rfl⟩ := Option.map_eq_some_iff.mp hd
    obtain ⟨e1, e2⟩ := List.getElem?_zip_eq_some.mp hp
    obtain ⟨v2, hv2, rv2⟩ := h2.get e2
    obtain ⟨v1, hv1, rv1⟩ := g2.get e1
    refine ⟨⟨ws, us, v1, v2, gq, hq, hv1, hv2⟩, fun x H' y => ?_⟩
    obtain ⟨tt, x1, x2, rfl, ht, rfl, y1, y2⟩ := y
    have z1 := y1 ws gq
    have z2 := y2 us hq
    rw [hv1] at z1
    rw [hv2] at z2
    cases z1
    cases z2
    exact f.tupNew ht (.cons rv1 (.cons rv2 .nil))
  · unfold zipD at hl
    rw [List.length_map, List.length_zip] at hl
    rw [h2.length, g2.length]
    omega
theorem walk_zipT {a b : Addr} {xs ys : List PyData} : Walk K c (RZ.ItzT K a b) [(.ref b, .val (.tuple ys)), (.ref a, .val (.tuple xs))] (zipD xs ys) := fun σ ρ T H r i => by
  obtain ⟨F, fp, f⟩ := r
  have f : RelF K c σ ρ ((.ref b, .val (.tuple ys)) :: (.ref a, .val (.tuple xs)) :: T) H F fp := f
  obtain ⟨p, us, e, h1, h2⟩ := f.top.tupAt
  cases e
  obtain ⟨p, ws, e, g1, g2⟩ := f.popV.top.tupAt
  cases e
  have hq : SqT K H b us := same_tup f.fh h1
  have gq : SqT K H a ws := same_tup f.fh g1
  refine ⟨fun d hd => ?_, fun hl => ⟨ws, us, gq, hq, ?_⟩⟩
  · unfold zipD at hd
    rw [List.getElem?_map] at hd
    obtain ⟨⟨d1, d2⟩, hp, rfl⟩ := Option.map_eq_some_iff.mp hd
    obtain ⟨e1, e2⟩ := List.getElem?_zip_eq_some.mp hp
    obtain ⟨v2, hv2, rv2⟩ := h2.get e2
    obtain ⟨v1, hv1, rv1⟩ := g2.get e1
    refine ⟨⟨ws, us, v1, v2, gq, hq, hv1, hv2⟩, fun x H' y => ?_⟩
    obtain ⟨tt, x1, x2, rfl, ht, rfl, y1, y2⟩ := y
    have z1 := y1 ws gq
    have z2 := y2 us hq
    rw [hv1] at z1
    rw [hv2] at z2
    cases z1
    cases z2
    exact f.tupNew ht (.cons rv1 (.cons rv2 .nil))
  · unfold zipD at hl
    rw [List.length_map, List.length_zip] at hl
    rw [h2.length, g2.length]
    omega
end
section
variable {Y : Fam} {tg e e2 a b d0 : Expr} {p pos tpos : Pos}
/-- a list, a tuple, a text -/
def mIt (m : MV) : MI := fun ρ => match m ρ with
  | some (.list ds, ρ) => some (ds, ρ)
  | some (.tuple ds, ρ) => some (ds, ρ)
  | some (.str x, ρ) => some (signsD x, ρ)
  | _ => none
theorem i_any {m : MV} (h : JV Y e m) : JI Y tg e (mIt m) := by
  obtain ⟨t, p, s⟩ := h
  refine ⟨fun σ H R => (iList Y.K t σ H R ∨ iTup Y.K t σ H R) ∨ iStr t σ H R, fun j => by rw [← Y.hK j]; exact pi_or (pi_or (pi_list (p j)) (pi_tup (p j))) (pi_str (p j)), fun c σ ρ T H R re q => ?_⟩
  unfold mIt at q
  split at q
  · rename_i ds ρ1 hm
    refine .inl (.inl (s c σ ρ T H _ re ?_))
    rw [hm]
    intro v H1 r1
    obtain ⟨F, fp, f⟩ := r1
    obtain ⟨p, us, rfl, h1, h2⟩ := f.top.lstAt
    exact ⟨p, rfl, ⟨us, .inl (.inl (f.fh _ _ h1))⟩, q _ _ _ walk_lst ⟨F, fp, f⟩⟩
  · rename_i ds ρ1 hm
    refine .inl (.inr (s c σ ρ T H _ re ?_))
    rw [hm]
    intro v H1 r1
    obtain ⟨F, fp, f⟩ := r1
    obtain ⟨p, us, rfl, h1, h2⟩ := f.top.tupAt
    exact ⟨p, rfl, ⟨us, same_tup f.fh h1⟩, q _ _ _ walk_tup ⟨F, fp, f⟩⟩
  · rename_i x ρ1 hm
    refine .inr (s c σ ρ T H _ re ?_)
    rw [hm]
    intro v H1 r1
    have r1 : Rel Y.K c σ ρ1 ((v, .val (.str x)) :: T) H1 := r1
    exact ⟨x, r1.strTop, q _ [] _ walk_str r1.pop⟩
  · exact q.elim
def R1ok (j : Int) : Prop := -(2 ^ 62) ≤ j ∧ j < 2 ^ 62
noncomputable instance (j : Int) : Decidable (R1ok j) := Classical.propDecidable _
def R2ok (i j : Int) : Prop := -(2 ^ 62) ≤ i ∧ i < 2 ^ 62 ∧ -(2 ^ 62) ≤ j ∧ j < 2 ^ 62
noncomputable instance (i j : Int) : Decidable (R2ok i j) := Classical.propDecidable _
noncomputable def mR1 (n : MA) : MI := fun ρ => match n ρ with
  | some ([.int j], ρ) => if R1ok j then some (rngD 0 j.toNat, ρ) else none
  | _ => none
noncomputable def mR2 (n : MA) : MI := fun ρ => match n ρ with
  | some ([.int i, .int j], ρ) => if R2ok i j then some (rngD i (j - i).toNat, ρ) else none
  | _ => none
theorem i_range1 {n : MA} (ha : JA Y [a] n) (hm : Y.mg "range" = none) (hg : ∀ j, Gl (Y.X j) "range" := by intro _; rfl) (hs : ∀ j, starEach [a] (Y.X j).env = [(false, eval a (Y.X j).env)] := by intro _; rfl) : JI Y tg (.Call (.Name "range" p) [a] [] pos) (mR1 n) := by
  obtain ⟨t, pa, s⟩ := ha
  refine ⟨iRng1 t, fun j => pi_range1 (hg j) (by rw [Y.hmg j]; exact hm) (pa j) (hs j), fun c σ ρ T H R re q => s c σ ρ T H _ re ?_⟩
  unfold mR1 at q
  split at q
  · rename_i j ρ1 hn
    rw [hn]
    split at q
    · rename_i hb
      intro vs H1 hl r1
      obtain ⟨v, rfl⟩ := len1 hl
      have r1 : Rel Y.K c σ ρ1 ((v, .val (.int j)) :: T) H1 := r1
      have hv := r1.intTop
      subst hv
      exact ⟨j, rfl, hb.1, hb.2, q _ [] _ walk_rng r1.pop⟩
    · exact q.elim
  · exact q.elim
theorem i_range2 {n : MA} (ha : JA Y [a, b] n) (hm : Y.mg "range" = none) (hg : ∀ j, Gl (Y.X j) "range" := by intro _; rfl) (hs : ∀ j, starEach [a, b] (Y.X j).env = [(false, eval a (Y.X j).env), (false, eval b (Y.X j).env)] := by intro _; rfl)
    (hs2 : ∀ j, starEach [b] (Y.X j).env = [(false, eval b (Y.X j).env)] := by intro _; rfl) : JI Y tg (.Call (.Name "range" p) [a, b] [] pos) (mR2 n) := by
  obtain ⟨t, pa, s⟩ := ha
  refine ⟨iRng2 t, fun j => pi_range2 (hg j) (by rw [Y.hmg j]; exact hm) (pa j) (hs j) (hs2 j), fun c σ ρ T H R re q => s c σ ρ T H _ re ?_⟩
  unfold mR2 at q
  split at q
  · rename_i i j ρ1 hn
    rw [hn]
    split at q
    · rename_i hb
      intro vs H1 hl r1
      obtain ⟨v, w, rfl⟩ := len2 hl
      have r1 : Rel Y.K c σ ρ1 ((w, .val (.int j)) :: (v, .val (.int i)) :: T) H1 := r1
      have hw := r1.intTop
      have hv := r1.pop.intTop
      subst hv hw
      exact ⟨i, j, rfl, hb, q _ [] _ walk_rng r1.pop2⟩
    · exact q.elim
  · exact q.elim
/-- what range asks of three numbers -/
def R3ok (i j k : Int) : Prop := k ≠ 0 ∧ k.natAbs < 1073741824 ∧ Builtin.Range.small i j k = true ∧ 0 ≤ Builtin.Range.rangeSize i j k
noncomputable instance (i j k : Int) : Decidable (R3ok i j k) := Classical.propDecidable _
noncomputable def mR3 (n : MA) : MI := fun ρ => match n ρ with
  | some ([.int i, .int j, .int k], ρ) => if R3ok i j k then some (rngCD i k (Builtin.Range.rangeSize i j k).toNat, ρ) else none
  | _ => none
theorem i_range3 {n : MA} (ha : JA Y [a, b, d0] n) (hm : Y.mg "range" = none) (hg : ∀ j, Gl (Y.X j) "range" := by intro _; rfl) (hs : ∀ j, starEach [a, b, d0] (Y.X j).env = (false, eval a (Y.X j).env) :: starEach [b, d0] (Y.X j).env := by intro _; rfl)
    (hpl : ∀ j, (backTo pos (starEach [b, d0] (Y.X j).env)).any (·.1) = false := by intro _; rfl) : JI Y tg (.Call (.Name "range" p) [a, b, d0] [] pos) (mR3 n) := by
  obtain ⟨t, pa, s⟩ := ha
  refine ⟨iRng3 t, fun j => pi_range3 (hg j) (by rw [Y.hmg j]; exact hm) (pa j) (hs j) (hpl j), fun c σ ρ T H R re q => s c σ ρ T H _ re ?_⟩
  unfold mR3 at q
  split at q
  · rename_i i j k ρ1 hn
    rw [hn]
    split at q
    · rename_i hb
      intro vs H1 hl r1
      obtain ⟨h1, r0⟩ := r1.tms hl
      cases h1 with
      | cons x1 t1 =>
        cases t1 with
        | cons x2 t2 =>
          cases t2 with
          | cons x3 t3 =>
            cases t3
            cases x1
            cases x2
            cases x3
            exact ⟨i, j, k, _, rfl, ⟨hb.1, hb.2.1, hb.2.2.1, by rw [Int.toNat_of_nonneg hb.2.2.2]⟩, q _ [] _ walk_rngC r0⟩
    · exact q.elim
  · exact q.elim
def mEnum (n : MA) : MI := fun ρ => match n ρ with
  | some ([.list ds], ρ) => some (enumD 0 ds, ρ)
  | _ => none
theorem i_enum {n : MA} {elts : List Expr} {kk : Nat} (ha : JA Y [e] n) (hm : Y.mg "enumerate" = none) (hg : ∀ j, Gl (Y.X j) "enumerate" := by intro _; rfl) (hs : ∀ j, starEach [e] (Y.X j).env = [(false, eval e (Y.X j).env)] := by intro _; rfl) : JI Y (.Tuple elts kk tpos) (.Call (.Name "enumerate" p) [e] [] pos) (mEnum n) := by
  obtain ⟨t, pa, s⟩ := ha
  refine ⟨iEnum Y.K t, fun j => by rw [← Y.hK j]; exact pi_enum (hg j) (by rw [Y.hmg j]; exact hm) (pa j) (hs j), fun c σ ρ T H R re q => s c σ ρ T H _ re ?_⟩
  unfold mEnum at q
  split at q
  · rename_i ds ρ1 hn
    rw [hn]
    intro vs H1 hl r1
    obtain ⟨v, rfl⟩ := len1 hl
    obtain ⟨F, fp, f⟩ := r1
    have f : RelF Y.K c σ ρ1 ((v, .val (.list ds)) :: T) H1 F fp := f
    obtain ⟨p, us, rfl, h1, h2⟩ := f.top.lstAt
    exact ⟨p, us, rfl, .inl (.inl (f.fh _ _ h1)), q _ _ _ walk_enum ⟨F, fp, f⟩⟩
  · exact q.elim
def mZip (n : MA) : MI := fun ρ => match n ρ with
  | some ([.list xs, .list ys], ρ) => some (zipD xs ys, ρ)
  | some ([.tuple xs, .tuple ys], ρ) => some (zipD xs ys, ρ)
  | _ => none
theorem i_zip {n : MA} {elts : List Expr} {kk : Nat} (ha : JA Y [e, e2] n) (hm : Y.mg "zip" = none) (hg : ∀ j, Gl (Y.X j) "zip" := by intro _; rfl) (hs : ∀ j, starEach [e, e2] (Y.X j).env = (false, eval e (Y.X j).env) :: starEach [e2] (Y.X j).env := by intro _; rfl)
    (hpl : ∀ j, (backTo pos (starEach [e2] (Y.X j).env)).any (·.1) = false := by intro _; rfl) : JI Y (.Tuple elts kk tpos) (.Call (.Name "zip" p) [e, e2] [] pos) (mZip n) := by
  obtain ⟨t, pa, s⟩ := ha
  refine ⟨RZ.iZipA Y.K t, fun j => by rw [← Y.hK j]; exact RZ.pi_zipA (hg j) (by rw [Y.hmg j]; exact hm) (pa j) (hs j) (hpl j), fun c σ ρ T H R re q => s c σ ρ T H _ re ?_⟩
  unfold mZip at q
  split at q
  · rename_i xs ys ρ1 hn
    rw [hn]
    intro vs H1 hl r1
    obtain ⟨v, w, rfl⟩ := len2 hl
    obtain ⟨F, fp, f⟩ := r1
    have f : RelF Y.K c σ ρ1 ((w, .val (.list ys)) :: (v, .val (.list xs)) :: T) H1 F fp := f
    obtain ⟨p, us, rfl, h1, h2⟩ := f.top.lstAt
    obtain ⟨p', us', rfl, g1, g2⟩ := f.popV.top.lstAt
    exact ⟨p', p, us', us, rfl, .inl ⟨.inl (.inl (f.fh _ _ g1)), .inl (.inl (f.fh _ _ h1)), q _ _ _ walk_zip ⟨F, fp, f⟩⟩⟩
  · rename_i xs ys ρ1 hn
    rw [hn]
    intro vs H1 hl r1
    obtain ⟨v, w, rfl⟩ := len2 hl
    obtain ⟨F, fp, f⟩ := r1
    have f : RelF Y.K c σ ρ1 ((w, .val (.tuple ys)) :: (v, .val (.tuple xs)) :: T) H1 F fp := f
    obtain ⟨p, us, rfl, h1, h2⟩ := f.top.tupAt
    obtain ⟨p', us', rfl, g1, g2⟩ := f.popV.top.tupAt
    exact ⟨p', p, us', us, rfl, .inr ⟨same_tup f.fh g1, same_tup f.fh h1, q _ _ _ walk_zipT ⟨F, fp, f⟩⟩⟩
  · exact q.elim
end
end Fj

set_option Elab.async false
set_option linter.all false
set_option maxRecDepth 100000
set_option maxHeartbeats 4000000
set_option autoImplicit false
/-! Targets, statements, loops, comprehensions, cells. -/
namespace Fj
open PySem PySem.Spec PyProof.Rows L2

/-! ### targets -/
theorem wipe_get (σ : L2.St) : ∀ (vs : List Nat) (j : Nat), (L2.wipe σ vs)[j]? = if j ∈ vs then (σ[j]?).map (fun _ => none) else σ[j]?
  | [], j => by simp [L2.wipe]
  | v :: vs, j => by
    unfold L2.wipe
    by_cases h : v = j
    · subst h
      rw [if_pos (List.mem_cons_self ..)]
      by_cases hl : v < (L2.wipe σ vs).length
      · rw [List.getElem?_set_self hl]
        rw [wipe_length] at hl
        rw [List.getElem?_eq_getElem hl]
        rfl
      · rw [List.getElem?_eq_none (by rw [List.length_set]; omega)]
        rw [wipe_length] at hl
        rw [List.getElem?_eq_none (by omega)]
        rfl
    · rw [List.getElem?_set_ne h, wipe_get σ vs j]
      have e : (j ∈ v :: vs) ↔ j ∈ vs := by
        rw [List.mem_cons]
        exact ⟨fun z => z.elim (fun z => absurd z.symm h) id, .inr⟩
      by_cases hj : j ∈ vs
      · rw [if_pos hj, if_pos (e.mpr hj)]
      · rw [if_neg hj, if_neg fun z => hj (e.mp z)]
theorem wipe_set {σ : L2.St} {vs : List Nat} {i : Nat} {x : Option V} (h : i ∈ vs) : L2.wipe (σ.set i x) vs = L2.wipe σ vs := by
  refine List.ext_getElem? fun j => ?_
  rw [wipe_get, wipe_get]
  by_cases hj : j ∈ vs
  · rw [if_pos hj, if_pos hj]
    by_cases e : i = j
    · subst e
      by_cases hl : i < σ.length
      · rw [List.getElem?_set_self hl, List.getElem?_eq_getElem hl]
        rfl
      · rw [List.set_eq_of_length_le (by omega)]
    · rw [List.getElem?_set_ne e]
  · rw [if_neg hj, if_neg hj]
    rw [List.getElem?_set_ne fun e => hj (by rw [← e]; exact h)]
abbrev MG := PyData → En → Option En
def PostG (K : PySem.W.Frag) (c : Ct) (σ : L2.St) (T : Tm) (sl : List Nat) (r : Option En) (Q : L2.St → Hp → Prop) : Prop := match r with
  | none => False
  | some ρ => ∀ σ' H, Rel K c σ' ρ T H → (∀ vs : List Nat, (∀ i ∈ sl, i ∈ vs) → L2.wipe σ' vs = L2.wipe σ vs) → Q σ' H
def SemG (K : PySem.W.Frag) (g : TG) (m : MG) (sl : List Nat) : Prop := ∀ (c : Ct) (σ : L2.St) (ρ : En) (T : Tm) (H : Hp) (x : V) (d : PyData) (Q : L2.St → Hp → Prop), Rel K c σ ρ ((x, .val d) :: T) H → PostG K c σ T sl (m d ρ) Q → g x σ H Q
def JG (Y : Fam) (tg : Expr) (m : MG) (sl : List Nat) : Prop := ∃ g, (∀ i, PG (Y.X i) tg g) ∧ SemG Y.K g m sl
def mN (i : Nat) : MG := fun d ρ => if freeE ρ i = true then some (ρ.set i (.val d)) else none
def tmf (vs : List V) (ds : List PyData) : Tm := vs.zip (ds.map Ent.val)
def SemGs (K : PySem.W.Frag) (g : TGs) (m : List PyData → En → Option En) (sl : List Nat) : Prop := ∀ (c : Ct) (σ : L2.St) (ρ : En) (T : Tm) (H : Hp) (xs : List V) (ds : List PyData) (Q : L2.St → Hp → Prop), xs.length = ds.length → Rel K c σ ρ (tmf xs ds ++ T) H → PostG K c σ T sl (m ds ρ) Q → g xs σ H Q
def JGs (Y : Fam) (ts : List Expr) (m : List PyData → En → Option En) (sl : List Nat) : Prop := ∃ g, (∀ i, PGs (Y.X i) ts g) ∧ SemGs Y.K g m sl
def mN0 : List PyData → En → Option En := fun ds ρ => match ds with
  | [] => some ρ
  | _ => none
def mN1 (m : MG) (n : List PyData → En → Option En) : List PyData → En → Option En := fun ds ρ => match ds with
  | d :: ds => (m d ρ).bind fun ρ => n ds ρ
  | [] => none
def mTupG (k : Nat) (n : List PyData → En → Option En) : MG := fun d ρ => match d with
  | .tuple ds => if ds.length = k then n ds ρ else none
  | .list ds => if ds.length = k then n ds ρ else none
  | _ => none
section
variable {Y : Fam} {pos : Pos}
theorem g_name (i : Nat) {x : Str} (hi : ∀ j, (Y.X j).N[i]? = some x := by intro _; rfl) (hN : ∀ j, (Y.X j).N.Nodup := by assumption) (hx : ∀ j, Loc (Y.X j).env.scope x := by first | exact fun _ => Or.inl rfl | exact fun _ => Or.inr rfl)
    (hf : ∀ j, (Y.X j).fn x = true ∨ (Y.X j).env.scope.names.lookup x = some .local := by first | exact fun _ => .inl rfl | exact fun _ => .inr rfl) : JG Y (.Name x pos) (mN i) [i] := by
  refine ⟨gName i, fun j => pg_name (hN j) (hi j) (hx j) (hf j), fun c σ ρ T H x d Q r q => ?_⟩
  unfold mN at q
  split at q
  · rename_i h
    exact q _ _ (r.put h) fun vs hv => wipe_set (hv i (List.mem_singleton.mpr rfl))
  · exact q.elim
theorem gs_nil : JGs Y [] mN0 [] := by
  refine ⟨gNil, fun j => pgs_nil, fun c σ ρ T H xs ds Q hl r q => ?_⟩
  unfold mN0 at q
  split at q
  · have : xs = [] := List.eq_nil_of_length_eq_zero hl
    subst this
    exact ⟨rfl, q _ _ r fun _ _ => rfl⟩
  · exact q.elim
theorem gs_cons {t : Expr} {ts : List Expr} {m : MG} {n : List PyData → En → Option En} {s1 s2 : List Nat} (h : JG Y t m s1) (g : JGs Y ts n s2) (hq : ∀ j, (assignEach (t :: ts) (Y.X j).env).map (·.2) = assign t (Y.X j).env :: (assignEach ts (Y.X j).env).map (·.2) := by intro _; rfl) : JGs Y (t :: ts) (mN1 m n) (s1 ++ s2) := by
  obtain ⟨u, p, s⟩ := h
  obtain ⟨u', p', s'⟩ := g
  refine ⟨gCons u u', fun j => pgs_cons (p j) (p' j) (hq j), fun c σ ρ T H xs ds Q hl r q => ?_⟩
  unfold mN1 at q
  split at q
  · rename_i d ds
    cases xs with
    | nil => cases hl
    | cons x xs =>
      refine ⟨x, xs, rfl, s c σ ρ (tmf xs ds ++ T) H x d _ r ?_⟩
      cases hm : m d ρ with
      | none =>
        rw [hm] at q
        exact q
      | some ρ1 =>
        rw [hm] at q
        intro σ1 H1 r1 w1
        refine s' c σ1 ρ1 T H1 xs ds Q (Nat.succ.inj hl) r1 ?_
        have q : PostG Y.K c σ T (s1 ++ s2) (n ds ρ1) Q := q
        cases hn : n ds ρ1 with
        | none =>
          rw [hn] at q
          exact q
        | some ρ2 =>
          rw [hn] at q
          exact fun σ2 H2 r2 w2 => q σ2 H2 r2 fun vs hv => (w2 vs fun i hi => hv i (List.mem_append_right _ hi)).trans (w1 vs fun i hi => hv i (List.mem_append_left _ hi))
  · exact q.elim
theorem RelF.pushAll {K : PySem.W.Frag} {c : Ct} {σ : L2.St} {ρ : En} {T : Tm} {H F : Hp} {fp : List Addr} (r : RelF K c σ ρ T H F fp) : ∀ {vs : List V} {ds : List PyData}, Rps K F vs ds → RelF K c σ ρ (tmf vs ds ++ T) H F fp
  | [], [], .nil => r
  | v :: vs, d :: ds, .cons h t => (RelF.pushAll r t).push h
theorem pg_or {X : Cx} {t : Expr} {g g' : TG} (h : PG X t g) (k : PG X t g') : PG X t (fun v σ H Q => g v σ H Q ∨ g' v σ H Q) := ⟨fun pins s σ H v u Q I r z => z.elim (h.run pins s σ H v u Q I r) (k.run pins s σ H v u Q I r)⟩
theorem g_tup {es : List Expr} {k k0 : Nat} {n : List PyData → En → Option En} {sl : List Nat} (h : JGs Y es n sl) (hn : ∀ j, (assignEach es (Y.X j).env).length = k := by intro _; rfl) (hst : ∀ j, (assignEach es (Y.X j).env).findIdx? (·.1) = none := by intro _; rfl) : JG Y (.Tuple es k0 pos) (mTupG k n) sl := by
  obtain ⟨u, p, s⟩ := h
  refine ⟨fun v σ H Q => gTup Y.K k u v σ H Q ∨ gUnl Y.K k u v σ H Q, fun j => by rw [← Y.hK j]; exact pg_or (pg_tup (Y.calm j) (p j) (hn j) (hst j)) (pg_unl (Y.calm j) (p j) (hn j) (hst j)), fun c σ ρ T H x d Q r q => ?_⟩
  unfold mTupG at q
  split at q
  · split at q
    · rename_i hk
      obtain ⟨F, fp, f⟩ := r
      obtain ⟨a, us, rfl, h1, h2⟩ := f.top.tupAt
      exact .inl ⟨a, us, rfl, same_tup f.fh h1, by rw [h2.length]; exact hk, s c σ ρ T H us _ Q h2.length ⟨F, fp, f.popV.pushAll h2⟩ q⟩
    · exact q.elim
  · split at q
    · rename_i hk
      obtain ⟨F, fp, f⟩ := r
      obtain ⟨a, us, rfl, h1, h2⟩ := f.top.lstAt
      exact .inr ⟨a, us, rfl, .inl (.inl (f.fh _ _ h1)), by rw [h2.length]; exact hk, s c σ ρ T H us _ Q h2.length ⟨F, fp, f.popV.pushAll h2⟩ q⟩
    · exact q.elim
  · exact q.elim
end

/-! ### statements -/
inductive Fl where
  | nx (ρ : En)
  | rt (e : Ent) (ρ : En)
  | bk (ρ : En)
  | ct (ρ : En)
abbrev MS := En → Option Fl
def PostS (K : PySem.W.Frag) (c : Ct) (T : Tm) (D : Ends) (r : Option Fl) : Prop := match r with
  | none => False
  | some (.nx ρ) => ∀ σ H, Rel K c σ ρ T H → D.nx σ H
  | some (.rt e ρ) => ∀ σ v H, Rel K c σ ρ ((v, e) :: T) H → D.rt v H
  | some (.bk ρ) => ∀ σ H, Rel K c σ ρ T H → D.bk σ H
  | some (.ct ρ) => ∀ σ H, Rel K c σ ρ T H → D.ct σ H
def SemS (K : PySem.W.Frag) (t : TS) (m : MS) : Prop := ∀ (c : Ct) (σ : L2.St) (ρ : En) (T : Tm) (H : Hp) (D : Ends), Rel K c σ ρ T H → PostS K c T D (m ρ) → t D σ H
def JS (Y : Fam) (st : Stmt) (m : MS) : Prop := ∃ t, (∀ i, PS (Y.X i) st t) ∧ SemS Y.K t m
def JB (Y : Fam) (sts : List Stmt) (m : MS) : Prop := ∃ t, (∀ i, PSs (Y.X i) sts t) ∧ SemS Y.K t m
def mNx : MS := fun ρ => some (.nx ρ)
def mSeq (m n : MS) : MS := fun ρ => match m ρ with
  | some (.nx ρ) => n ρ
  | r => r
section
variable {Y : Fam} {pos : Pos} {e : Expr} {st : Stmt} {sts : List Stmt}
theorem b_nil : JB Y [] mNx := ⟨tNext, fun _ => pss_nil, fun _ σ _ _ H _ r q => q σ H r⟩
theorem b_cons {m n : MS} (h : JS Y st m) (g : JB Y sts n) : JB Y (st :: sts) (mSeq m n) := by
  obtain ⟨t, p, s⟩ := h
  obtain ⟨u, p', s'⟩ := g
  refine ⟨tSeq t u, fun j => pss_cons (p j) (p' j), fun c σ ρ T H D r q => s c σ ρ T H _ r ?_⟩
  unfold mSeq at q
  cases hm : m ρ with
  | none =>
    rw [hm] at q
    exact q
  | some f =>
    rw [hm] at q
    cases f with
    | nx ρ1 => exact fun σ1 H1 r1 => s' c σ1 ρ1 T H1 D r1 q
    | rt e ρ1 => exact q
    | bk ρ1 => exact q
    | ct ρ1 => exact q
theorem b_one {m : MS} (h : JS Y st m) : JB Y [st] m := by
  obtain ⟨t, p, s⟩ := h
  exact ⟨t, fun j => pss_one (p j), s⟩
/-- from here on a slot's list is data -/
def frz (i : Nat) (ρ : En) : En := match ρ[i]? with
  | some (.own true (.lst ds)) => ρ.set i (.val (.list ds))
  | _ => ρ
def mFrz (i : Nat) (m : MS) : MS := fun ρ => m (frz i ρ)
theorem Rel.frz {K : PySem.W.Frag} {c : Ct} {σ : L2.St} {ρ : En} {T : Tm} {H : Hp} {i : Nat} (r : Rel K c σ ρ T H) : Rel K c σ (Fj.frz i ρ) T H := by
  unfold Fj.frz
  split
  · rename_i ds he
    obtain ⟨v, hv⟩ := r.ownv he
    have r1 := (r.take hv he).freeze
    have r2 := r1.back hv fun w z => by
      have := r.pinned z he
      cases this
    rw [List.set_set] at r2
    exact r2
  · exact r
theorem b_frz (i : Nat) {m : MS} (h : JB Y sts m) : JB Y sts (mFrz i m) := by
  obtain ⟨t, p, s⟩ := h
  exact ⟨t, p, fun c σ ρ T H D r q => s c σ _ T H D r.frz q⟩
def mAsg (m : MV) (g : MG) : MS := fun ρ => match m ρ with
  | none => none
  | some (d, ρ) => (g d ρ).map .nx
theorem s_asg {tg : Expr} {m : MV} {g : MG} {sl : List Nat} (h : JV Y e m) (k : JG Y tg g sl) (hs : ∀ j, swapsWithSole [tg] e pos.line (Y.X j).env = pure false := by intro _; rfl) (hw : ∀ j, swappedStores [tg] e (Y.X j).env = pure none := by intro _; rfl) (h1 : ∀ j, (assignEach [tg] (Y.X j).env).map (·.2) = [assign tg (Y.X j).env] := by intro _; rfl) : JS Y (.Assign [tg] e pos) (mAsg m g) := by
  obtain ⟨t, p, s⟩ := h
  obtain ⟨u, p', s'⟩ := k
  refine ⟨tAsg t u, fun j => ps_asg (p j) (p' j) (hs j) (hw j) (h1 j), fun c σ ρ T H D r q => s c σ ρ T H _ r ?_⟩
  unfold mAsg at q
  cases hm : m ρ with
  | none =>
    rw [hm] at q
    exact q
  | some z =>
    obtain ⟨d, ρ1⟩ := z
    rw [hm] at q
    intro v H1 r1
    refine s' c σ ρ1 T H1 v d _ r1 ?_
    simp only at q
    cases hg : g d ρ1 with
    | none =>
      rw [hg] at q
      exact q
    | some ρ2 =>
      rw [hg] at q
      exact fun σ2 H2 r2 _ => q σ2 H2 r2
/-- a name becomes an owned cell -/
def mOwn (m : MO) (i : Nat) : MS := fun ρ => match m ρ with
  | none => none
  | some (e, ρ) => if freeE ρ i = true then some (.nx (ρ.set i e)) else none
theorem sem_own {K : PySem.W.Frag} {t : TE} {m : MO} {i : Nat} (s : SemO K t m) : SemS K (tAsg t (gName i)) (mOwn m i) := fun c σ ρ T H D r q => by
  refine s c σ ρ T H _ r ?_
  unfold mOwn at q
  cases hm : m ρ with
  | none =>
    rw [hm] at q
    exact q
  | some z =>
    obtain ⟨d, ρ1⟩ := z
    rw [hm] at q
    intro v H1 r1
    simp only at q
    split at q
    · rename_i hf
      exact q _ _ (r1.put hf)
    · exact q.elim
theorem s_own (i : Nat) {x : Str} {m : MO} {pos' : Pos} (h : JO Y e m) (hi : ∀ j, (Y.X j).N[i]? = some x := by intro _; rfl) (hN : ∀ j, (Y.X j).N.Nodup := by assumption) (hx : ∀ j, Loc (Y.X j).env.scope x := by first | exact fun _ => Or.inl rfl | exact fun _ => Or.inr rfl)
    (hf : ∀ j, (Y.X j).fn x = true ∨ (Y.X j).env.scope.names.lookup x = some .local := by first | exact fun _ => .inl rfl | exact fun _ => .inr rfl) (hs : ∀ j, swapsWith e (some (.Name x pos')) pos.line (Y.X j).env = pure false := by intro _; rfl) : JS Y (.Assign [.Name x pos'] e pos) (mOwn m i) := by
  obtain ⟨t, p, s⟩ := h
  exact ⟨_, fun j => ps_set (hN j) (hi j) (hx j) (p j) (hs j) (hf j), sem_own s⟩
def mRet (m : MO) : MS := fun ρ => (m ρ).map fun p => .rt p.1 p.2
theorem s_ret {m : MO} (h : JO Y e m) : JS Y (.Return (some e) pos) (mRet m) := by
  obtain ⟨t, p, s⟩ := h
  refine ⟨tRet t, fun j => ps_ret (p j), fun c σ ρ T H D r q => s c σ ρ T H _ r ?_⟩
  unfold mRet at q
  cases hm : m ρ with
  | none =>
    rw [hm] at q
    exact q
  | some z =>
    rw [hm] at q
    exact fun v H1 r1 => q σ v H1 r1
/-- a name given up: its cell is handed on -/
def mMove (i : Nat) : MO := fun ρ => match ρ[i]? with
  | some (.val d) => some (.val d, ρ)
  | some (.own true ce) => some (.own true ce, ρ.set i .lent)
  | _ => none
theorem j_move (i : Nat) {x : Str} (hN : ∀ j, (Y.X j).N[i]? = some x := by intro _; rfl) (hv : ∀ j, Vis (Y.X j).env.scope x := by first | exact fun _ => Or.inl rfl | exact fun _ => Or.inr (Or.inl rfl) | exact fun _ => Or.inr (Or.inr rfl)) (hd : (x == ("__debug__" : Str)) = false := by decide)
    (hcd : (x == ("__classdict__" : Str)) = false := by decide) : JO Y (.Name x pos) (mMove i) := by
  refine ⟨tVar i, fun j => pe_var (hN j) (hv j) hd hcd, fun c σ ρ T H Q r q => ?_⟩
  unfold mMove at q
  split at q
  · rename_i d he
    obtain ⟨v, hv, r1⟩ := r.slot he
    exact ⟨v, hv, q v H r1⟩
  · rename_i ce he
    obtain ⟨v, hv⟩ := r.ownv he
    exact ⟨v, hv, q v H (r.take hv he)⟩
  · exact q.elim
def mDrop (m : MO) : MS := fun ρ => (m ρ).map fun p => .nx p.2
theorem s_expr {m : MO} (h : JO Y e m) (hs : ∀ j, swapsWith e none pos.line (Y.X j).env = pure false := by intro _; rfl) : JS Y (.Expr e pos) (mDrop m) := by
  obtain ⟨t, p, s⟩ := h
  refine ⟨tDrop t, fun j => ps_expr (p j) (hs j), fun c σ ρ T H D r q => s c σ ρ T H _ r ?_⟩
  unfold mDrop at q
  cases hm : m ρ with
  | none =>
    rw [hm] at q
    exact q
  | some z =>
    rw [hm] at q
    exact fun v H1 r1 => q σ H1 r1.pop
theorem s_if {c0 : Expr} {t : MT} {m n : MS} {s1 s2 : List Stmt} (hc : JT Y c0 t) (ha : JB Y s1 m) (hb : JB Y s2 n) : JS Y (.If c0 s1 s2 pos) (mIf t m n) := by
  obtain ⟨tt, p, s⟩ := hc
  obtain ⟨ta, pa, sa⟩ := ha
  obtain ⟨tb, pb, sb⟩ := hb
  refine ⟨tIfS tt ta tb, fun i => ps_if (p i) (pa i) (pb i), fun c σ ρ T H D re q => s c σ ρ T H _ re ?_⟩
  unfold mIf at q
  cases hm : t ρ with
  | none =>
    rw [hm] at q
    exact q
  | some z =>
    obtain ⟨k, ρ1⟩ := z
    rw [hm] at q
    cases k with
    | true =>
      intro H1 r1
      rw [if_pos rfl]
      exact sa c σ ρ1 T H1 D r1 q
    | false =>
      intro H1 r1
      rw [if_neg Bool.false_ne_true]
      exact sb c σ ρ1 T H1 D r1 q
def mBad : MS := fun _ => none
theorem s_never : JS Y st mBad := ⟨tNever, fun _ => ps_never, fun _ _ _ _ _ _ _ q => q⟩
theorem b_never : JB Y sts mBad := ⟨tNever, fun _ => pss_never, fun _ _ _ _ _ _ _ q => q⟩
theorem s_pass : JS Y (.Pass pos) mNx := ⟨tNext, fun _ => ps_pass, fun _ σ _ _ H _ r q => q σ H r⟩
theorem s_brk : JS Y (.Break pos) (fun ρ => some (.bk ρ)) := ⟨tBreak, fun _ => ps_break, fun _ σ _ _ H _ r q => q σ H r⟩
theorem s_cont : JS Y (.Continue pos) (fun ρ => some (.ct ρ)) := ⟨tCont, fun _ => ps_continue, fun _ σ _ _ H _ r q => q σ H r⟩
/-! ### loops -/
def forL (g : MG) (m : MS) : List PyData → MS
  | [], ρ => some (.nx ρ)
  | d :: ds, ρ => match g d ρ with
    | none => none
    | some ρ => match m ρ with
      | some (.nx ρ) => forL g m ds ρ
      | some (.ct ρ) => forL g m ds ρ
      | some (.bk ρ) => some (.nx ρ)
      | some (.rt e ρ) => some (.rt e ρ)
      | none => none
def mFor (n : MI) (g : MG) (m : MS) : MS := fun ρ => match n ρ with
  | none => none
  | some (ds, ρ) => forL g m ds ρ
theorem PostS.drop {K : PySem.W.Frag} {c : Ct} {S T : Tm} {D : Ends} {r : Option Fl} (q : PostS K c T D r) (h : ∀ e ρ σ v H, r = some (.rt e ρ) → Rel K c σ ρ ((v, e) :: (S ++ T)) H → Rel K c σ ρ ((v, e) :: T) H) : PostS K c (S ++ T) D r := by
  cases r with
  | none => exact q
  | some f =>
    cases f with
    | nx ρ => exact fun σ H r => q σ H r.drop
    | rt e ρ => exact fun σ v H r => q σ v H (h e ρ σ v H rfl r)
    | bk ρ => exact fun σ H r => q σ H r.drop
    | ct ρ => exact fun σ H r => q σ H r.drop
theorem Rel.dropUnder {K : PySem.W.Frag} {c : Ct} {σ : L2.St} {ρ : En} {S T : Tm} {H : Hp} {p : V × Ent} (r : Rel K c σ ρ (p :: (S ++ T)) H) : Rel K c σ ρ (p :: T) H := by
  have q : Rel K c σ ρ (S ++ (p :: T)) H := r.perm List.perm_middle.symm
  exact q.drop
theorem sem_for {K : PySem.W.Frag} {wi : TI} {g : TG} {t : TS} {n : MI} {mg : MG} {m : MS} {sl : List Nat} (sI : SemI K wi n) (sG : SemG K g mg sl) (sB : SemS K t m) : SemS K (tFor wi g t) (mFor n mg m) := fun c σ ρ T H D r q => by
  refine sI c σ ρ T H _ r ?_
  unfold mFor at q
  cases hn : n ρ with
  | none =>
    rw [hn] at q
    exact q
  | some z =>
    obtain ⟨ds, ρ1⟩ := z
    rw [hn] at q
    simp only at q
    intro J Tk H1 W r1
    refine ⟨fun i k σ' H' => k = ds.length - i ∧ i ≤ ds.length ∧ ∃ ρ' : En, Rel K c σ' ρ' (Tk ++ T) H' ∧ PostS K c T D (forL mg m (ds.drop i) ρ'), ⟨ds.length, by simp, Nat.zero_le _, ρ1, r1, by simpa using q⟩, ?_⟩
    rintro i k σ' H' ⟨rfl, hi, ρ', r', q'⟩
    by_cases hlt : i < ds.length
    · obtain ⟨hgo, hy⟩ := (W σ' ρ' T H' r' i).1 ds[i] (List.getElem?_eq_getElem hlt)
      refine .inr ⟨hgo, fun σ2 H2 => ∃ ρ2 : En, Rel K c σ2 ρ2 (Tk ++ T) H2 ∧ PostS K c T D (forL mg m (ds.drop (i + 1)) ρ2), fun σ2 H2 ⟨ρ2, r2, q2⟩ => ⟨ds.length - (i + 1), by omega, rfl, hlt, ρ2, r2, q2⟩, fun x H2 y => ?_⟩
      have r2 := hy x H2 y
      refine sG c σ' ρ' (Tk ++ T) H2 x ds[i] _ r2 ?_
      rw [List.drop_eq_getElem_cons hlt] at q'
      unfold forL at q'
      cases hg : mg ds[i] ρ' with
      | none =>
        rw [hg] at q'
        exact q'
      | some ρ3 =>
        rw [hg] at q'
        simp only at q'
        intro σ3 H3 r3 _
        refine sB c σ3 ρ3 (Tk ++ T) H3 _ r3 ?_
        cases hm : m ρ3 with
        | none =>
          rw [hm] at q'
          exact q'
        | some f =>
          rw [hm] at q'
          cases f with
          | nx ρ4 => exact fun σ4 H4 r4 => ⟨ρ4, r4, q'⟩
          | ct ρ4 => exact fun σ4 H4 r4 => ⟨ρ4, r4, q'⟩
          | bk ρ4 => exact fun σ4 H4 r4 => q' σ4 H4 r4.drop
          | rt e ρ4 => exact fun σ4 v H4 r4 => q' σ4 v H4 r4.dropUnder
    · have e : i = ds.length := by omega
      subst e
      rw [List.drop_length] at q'
      exact .inl ⟨(W σ' ρ' T H' r' ds.length).2 (Nat.le_refl _), q' σ' H' r'.drop⟩
theorem s_for {tg iter : Expr} {body : List Stmt} {n : MI} {g : MG} {m : MS} {sl : List Nat} (hi : JI Y tg iter n) (hg : JG Y tg g sl) (hb : JB Y body m) (hp : ∀ j, PassesOwn (model (Y.X j).prog (Y.X j).w) (Y.X j).A (Y.X j).env (Y.X j).xe := by exact fun _ => PassesOwn.never) (hfs : ∀ j x, foldedSetIterable iter (Y.X j).env x = pure x := by intro _ _; rfl) : JS Y (.For tg iter body [] pos) (mFor n g m) := by
  obtain ⟨wi, p1, s1⟩ := hi
  obtain ⟨u, p2, s2⟩ := hg
  obtain ⟨t, p3, s3⟩ := hb
  exact ⟨tFor wi u t, fun j => ps_for (hp j) (Y.calm j) (p1 j) (p2 j) (p3 j) (hfs j), sem_for s1 s2 s3⟩
def whileL (t : MT) (m : MS) : Nat → MS
  | 0, _ => none
  | k + 1, ρ => match t ρ with
    | none => none
    | some (false, ρ) => some (.nx ρ)
    | some (true, ρ) => match m ρ with
      | some (.nx ρ) => whileL t m k ρ
      | some (.ct ρ) => whileL t m k ρ
      | some (.bk ρ) => some (.nx ρ)
      | some (.rt e ρ) => some (.rt e ρ)
      | none => none
theorem s_while (N : Nat) {c0 : Expr} {body : List Stmt} {t : MT} {m : MS} (hc : JT Y c0 t) (hb : JB Y body m) (hp : ∀ j, PassesOwn (model (Y.X j).prog (Y.X j).w) (Y.X j).A (Y.X j).env (Y.X j).xe := by exact fun _ => PassesOwn.never) : JS Y (.While c0 body [] pos) (whileL t m N) := by
  obtain ⟨tc, p1, s1⟩ := hc
  obtain ⟨tb, p2, s2⟩ := hb
  refine ⟨tWhile tc tb, fun j => ps_while (hp j) (p1 j) (p2 j), fun c σ ρ T H D r q => ?_⟩
  refine ⟨fun k σ' H' => ∃ ρ' : En, Rel Y.K c σ' ρ' T H' ∧ PostS Y.K c T D (whileL t m k ρ'), ⟨N, ρ, r, q⟩, ?_⟩
  rintro k σ' H' ⟨ρ', r', q'⟩
  cases k with
  | zero => exact q'.elim
  | succ k =>
    refine s1 c σ' ρ' T H' _ r' ?_
    unfold whileL at q'
    cases hm : t ρ' with
    | none =>
      rw [hm] at q'
      exact q'
    | some z =>
      obtain ⟨b, ρ1⟩ := z
      rw [hm] at q'
      cases b with
      | false =>
        intro H1 r1
        rw [if_neg Bool.false_ne_true]
        exact q' σ' H1 r1
      | true =>
        intro H1 r1
        rw [if_pos rfl]
        refine ⟨fun σ2 H2 => ∃ ρ2 : En, Rel Y.K c σ2 ρ2 T H2 ∧ PostS Y.K c T D (whileL t m k ρ2), fun σ2 H2 ⟨ρ2, r2, q2⟩ => ⟨k, by omega, ρ2, r2, q2⟩, ?_⟩
        refine s2 c σ' ρ1 T H1 _ r1 ?_
        simp only at q'
        cases hb : m ρ1 with
        | none =>
          rw [hb] at q'
          exact q'
        | some f =>
          rw [hb] at q'
          cases f with
          | nx ρ4 => exact fun σ4 H4 r4 => ⟨ρ4, r4, q'⟩
          | ct ρ4 => exact fun σ4 H4 r4 => ⟨ρ4, r4, q'⟩
          | bk ρ4 => exact fun σ4 H4 r4 => q' σ4 H4 r4
          | rt e ρ4 => exact fun σ4 v H4 r4 => q' σ4 v H4 r4
end
end Fj

set_option Elab.async false
set_option linter.all false
set_option maxRecDepth 100000
set_option maxHeartbeats 4000000
set_option autoImplicit false
/-! Comprehensions; lists and decks that a def owns; stores of several names. -/
namespace Fj
open PySem PySem.Spec PyProof.Rows L2

def wipeE (ρ : En) : List Nat → En
  | [] => ρ
  | v :: vs => (wipeE ρ vs).set v .no
theorem wipeE_get (ρ : En) : ∀ (vs : List Nat) (j : Nat), (wipeE ρ vs)[j]? = if j ∈ vs then (ρ[j]?).map (fun _ => .no) else ρ[j]?
  | [], j => by simp [wipeE]
  | v :: vs, j => by
    have hlen : ∀ vs : List Nat, (wipeE ρ vs).length = ρ.length := fun vs => by
      induction vs with
      | nil => rfl
      | cons v vs ih => rw [wipeE, List.length_set, ih]
    unfold wipeE
    by_cases h : v = j
    · subst h
      rw [if_pos (List.mem_cons_self ..)]
      by_cases hl : v < (wipeE ρ vs).length
      · rw [List.getElem?_set_self hl]
        rw [hlen] at hl
        rw [List.getElem?_eq_getElem hl]
        rfl
      · rw [List.getElem?_eq_none (by rw [List.length_set]; omega)]
        rw [hlen] at hl
        rw [List.getElem?_eq_none (by omega)]
        rfl
    · rw [List.getElem?_set_ne h, wipeE_get ρ vs j]
      have e : (j ∈ v :: vs) ↔ j ∈ vs := by
        rw [List.mem_cons]
        exact ⟨fun z => z.elim (fun z => absurd z.symm h) id, .inr⟩
      by_cases hj : j ∈ vs
      · rw [if_pos hj, if_pos (e.mpr hj)]
      · rw [if_neg hj, if_neg fun z => hj (e.mp z)]
section
variable {K : PySem.W.Frag} {c : Ct} {σ : L2.St} {ρ : En} {T : Tm} {H : Hp}
theorem Rel.clear {i : Nat} (r : Rel K c σ ρ T H) (hf : freeE ρ i = true) : Rel K c (σ.set i none) (ρ.set i .no) T H := by
  obtain ⟨F, fp, r⟩ := r
  have hpin : ∀ (j : Nat) (w : V), c.pins[j]? = some (some w) → (σ.set i none)[j]? = some (some w) ∧ ∃ e0 : Ent, (ρ.set i .no)[j]? = some e0 ∧ pinE e0 = true := fun j w z => by
    obtain ⟨z1, e0, z2, z3⟩ := r.pin j w z
    by_cases hj : i = j
    · subst hj
      unfold freeE at hf
      rw [z2] at hf
      simp only [z3, Bool.not_true] at hf
      cases hf
    · rw [List.getElem?_set_ne hj, List.getElem?_set_ne hj]
      exact ⟨z1, e0, z2, z3⟩
  by_cases hi : i < σ.length
  · obtain ⟨f1, fo, f2, e2, f3, f4⟩ := Slots.place (i := T.length + i) r.sl (x := (σ[i], ρ[i]'(r.len ▸ hi))) (by
      rw [List.getElem?_append_right (by simp [tmp])]
      simp only [tmp, List.length_map, Nat.add_sub_cancel_left]
      exact zip_at (List.getElem?_eq_getElem hi) (List.getElem?_eq_getElem _))
    subst e2
    have z := f4 F H (none, .no) [] (fun _ _ z => z) (fun _ _ => rfl) (.no _)
    rw [List.set_append_right _ _ (by simp [tmp])] at z
    simp only [tmp, List.length_map, Nat.add_sub_cancel_left, ← zip_set', List.nil_append] at z
    have sub : (f1 ++ f2).Sublist (f1 ++ (fo ++ f2)) := List.Sublist.append_left (List.sublist_append_right _ _) _
    exact ⟨F, f1 ++ f2, r.f0, r.fh, r.new, r.keep, r.trk, z, r.nd.sublist sub, fun a ha => r.own a (sub.mem ha), by rw [List.length_set, List.length_set]; exact r.len, hpin⟩
  · have hρ : ¬ i < ρ.length := by rw [← r.len]; exact hi
    rw [List.set_eq_of_length_le (by omega), List.set_eq_of_length_le (by omega)]
    exact ⟨F, fp, r⟩
theorem freeE_wipe {vs : List Nat} {i : Nat} (hf : freeE ρ i = true) : freeE (wipeE ρ vs) i = true := by
  unfold freeE at hf ⊢
  rw [wipeE_get]
  by_cases h : i ∈ vs
  · rw [if_pos h]
    cases ρ[i]? <;> rfl
  · rw [if_neg h]
    exact hf
theorem Rel.wiped (r : Rel K c σ ρ T H) : ∀ {vs : List Nat}, (∀ i ∈ vs, freeE ρ i = true) → Rel K c (L2.wipe σ vs) (wipeE ρ vs) T H
  | [], _ => r
  | v :: vs, h => (Rel.wiped r fun i hi => h i (List.mem_cons_of_mem _ hi)).clear (freeE_wipe (h v (List.mem_cons_self ..)))
theorem Slots.resig {F : Hp} : ∀ {σ1 σ2 : L2.St} {ρ : En} {fp : List Addr}, σ2.length = σ1.length → (∀ j : Nat, σ2[j]? = σ1[j]? ∨ ρ[j]? = some .no) → Slots K c F H (σ1.zip ρ) fp → Slots K c F H (σ2.zip ρ) fp
  | [], σ2, ρ, fp, hl, _, h => by
    have : σ2 = [] := List.eq_nil_of_length_eq_zero hl
    subst this
    exact h
  | s :: σ1, [], ρ, fp, hl, _, h => by cases hl
  | s :: σ1, u :: σ2, [], fp, hl, hj, h => h
  | s :: σ1, u :: σ2, e :: ρ, fp, hl, hj, h => by
    have h0 : Slots K c F H ((s, e) :: σ1.zip ρ) fp := h
    clear h
    cases h0 with
    | @cons _ fc fq _ h1 t1 =>
      have t' := Slots.resig (Nat.succ.inj hl) (fun j => hj (j + 1)) t1
      refine Slots.cons (fc := fc) ?_ t'
      rcases hj 0 with z | z
      · have z' : some u = some s := z
        cases z'
        exact h1
      · have z' : some e = some Ent.no := z
        cases z'
        generalize hs : ((s, Ent.no) : Option V × Ent) = y at h1
        cases h1 with
        | no x => exact .no _
        | val r => cases hs
        | own r h => cases hs
        | scr h w => cases hs
        | lent x => cases hs
        | fzo h l r => cases hs
theorem Rel.resig {σ2 : L2.St} (r : Rel K c σ ρ T H) (hl : σ2.length = σ.length) (hj : ∀ j : Nat, σ2[j]? = σ[j]? ∨ ρ[j]? = some .no) : Rel K c σ2 ρ T H := by
  obtain ⟨F, fp, r⟩ := r
  obtain ⟨f1, f2, e, s1, s2⟩ := Slots.split r.sl
  subst e
  refine ⟨F, f1 ++ f2, r.f0, r.fh, r.new, r.keep, r.trk, s1.app (s2.resig hl hj), r.nd, r.own, hl.trans r.len, fun j w z => ?_⟩
  obtain ⟨z1, e0, z2, z3⟩ := r.pin j w z
  rcases hj j with y | y
  · exact ⟨y.trans z1, e0, z2, z3⟩
  · rw [y] at z2
    cases z2
    cases z3
theorem Rel.unwipe {vs : List Nat} (r : Rel K c (L2.wipe σ vs) (wipeE ρ vs) T H) : Rel K c σ (wipeE ρ vs) T H := by
  refine r.resig (wipe_length σ vs).symm fun j => ?_
  rw [wipe_get, wipeE_get]
  by_cases h : j ∈ vs
  · rw [if_pos h, if_pos h]
    obtain ⟨F, fp, f⟩ := r
    have hl := f.len
    have hlen : ∀ vs : List Nat, (wipeE ρ vs).length = ρ.length := fun vs => by
      induction vs with
      | nil => rfl
      | cons v vs ih => rw [wipeE, List.length_set, ih]
    rw [wipe_length, hlen] at hl
    by_cases hj : j < σ.length
    · right
      rw [List.getElem?_eq_getElem (by omega)]
      rfl
    · left
      rw [List.getElem?_eq_none (by omega)]
      rfl
  · rw [if_neg h]
    exact .inl rfl
end

/-! ### [e for x in xs if t] -/
def lcL (g : MG) (t : MT) (m : MV) (vs : List Nat) : List PyData → List PyData → En → Option (List PyData × En)
  | [], acc, ρ => some (acc, ρ)
  | d :: ds, acc, ρ => match g d ρ with
    | none => none
    | some ρ => match t ρ with
      | none => none
      | some (false, ρ) => if vs.all (freeE ρ) = true then lcL g t m vs ds acc (wipeE ρ vs) else none
      | some (true, ρ) => match m ρ with
        | none => none
        | some (y, ρ) => if acc.length < 100000 ∧ vs.all (freeE ρ) = true then lcL g t m vs ds (acc ++ [y]) (wipeE ρ vs) else none
def mLc (n : MI) (g : MG) (t : MT) (m : MV) (vs : List Nat) : MO := fun ρ => match n ρ with
  | none => none
  | some (ds, ρ) => if vs.all (freeE ρ) = true then (lcL g t m vs ds [] (wipeE ρ vs)).map fun p => (.own true (.lst p.1), p.2) else none
def mYes : MT := fun ρ => some (true, ρ)
def JTs (Y : Fam) (ifs : List Expr) (m : MT) : Prop := ∃ t, (∀ i, PTs (Y.X i) ifs t) ∧ SemT Y.K t m
theorem ts_nil {Y : Fam} : JTs Y [] mYes := ⟨tYes, fun _ => pts_nil, fun _ _ _ _ H _ r q => q H r⟩
theorem ts_one {Y : Fam} {e : Expr} {m : MT} (h : JT Y e m) : JTs Y [e] m := by
  obtain ⟨t, p, s⟩ := h
  exact ⟨t, fun i => pts_one (p i), s⟩
theorem sem_lc {K : PySem.W.Frag} {wi : TI} {g : TG} {tt : TT} {te : TE} {n : MI} {mg : MG} {mt : MT} {m : MV} {sl vs : List Nat} (sI : SemI K wi n) (sG : SemG K g mg sl) (sT : SemT K tt mt) (sE : SemV K te m) (hsl : ∀ i ∈ sl, i ∈ vs) :
    SemO K (tLc wi g tt te vs) (mLc n mg mt m vs) := fun c σ ρ T H Q r q => by
  refine sI c σ ρ T H _ r ?_
  unfold mLc at q
  cases hn : n ρ with
  | none =>
    rw [hn] at q
    exact q
  | some z =>
    obtain ⟨ds, ρ1⟩ := z
    rw [hn] at q
    simp only at q
    split at q
    · rename_i hfree
      have hfree : ∀ i ∈ vs, freeE ρ1 i = true := List.all_eq_true.mp hfree
      intro J Tk H1 W r1 D hD
      obtain ⟨F, fp, f⟩ := r1.wiped hfree
      have r2 : Rel K c (L2.wipe σ vs) (wipeE ρ1 vs) (Tk ++ ((.ref D, .own true (.lst [])) :: T)) (upd H1 D (.lst [])) := (f.lstNew hD .nil).perm List.perm_middle.symm
      refine ⟨fun i k H' => k = ds.length - i ∧ i ≤ ds.length ∧ ∃ (ρ' : En) (acc : List PyData), Rel K c (L2.wipe σ vs) (wipeE ρ' vs) (Tk ++ ((.ref D, .own true (.lst acc)) :: T)) H' ∧
        PostO K c σ T ((lcL mg mt m vs (ds.drop i) acc (wipeE ρ' vs)).map fun p => (.own true (.lst p.1), p.2)) Q, ⟨ds.length, by simp, Nat.zero_le _, ρ1, [], r2, by simpa using q⟩, ?_⟩
      rintro i k H' ⟨rfl, hi, ρ', acc, r', q'⟩
      by_cases hlt : i < ds.length
      · obtain ⟨hgo, hy⟩ := (W _ _ _ H' r' i).1 ds[i] (List.getElem?_eq_getElem hlt)
        rw [List.drop_eq_getElem_cons hlt] at q'
        unfold lcL at q'
        refine .inr ⟨hgo, fun H2 => ∃ (ρ2 : En) (acc2 : List PyData), Rel K c (L2.wipe σ vs) (wipeE ρ2 vs) (Tk ++ ((.ref D, .own true (.lst acc2)) :: T)) H2 ∧
          PostO K c σ T ((lcL mg mt m vs (ds.drop (i + 1)) acc2 (wipeE ρ2 vs)).map fun p => (.own true (.lst p.1), p.2)) Q, fun H2 ⟨ρ2, acc2, r2, q2⟩ => ⟨ds.length - (i + 1), by omega, rfl, hlt, ρ2, acc2, r2, q2⟩, fun x H2 y => ?_⟩
        have r2 := hy x H2 y
        refine sG c _ _ _ H2 x ds[i] _ r2 ?_
        cases hg : mg ds[i] (wipeE ρ' vs) with
        | none =>
          rw [hg] at q'
          exact q'
        | some ρ3 =>
          rw [hg] at q'
          simp only at q'
          intro σ3 H3 r3 w3
          have w3 : L2.wipe σ3 vs = L2.wipe σ vs := (w3 vs hsl).trans (by
            refine List.ext_getElem? fun j => ?_
            rw [wipe_get, wipe_get]
            by_cases hj : j ∈ vs
            · rw [if_pos hj, if_pos hj]
              cases σ[j]? <;> rfl
            · rw [if_neg hj])
          refine ⟨w3, sT c σ3 ρ3 _ H3 _ r3 ?_⟩
          cases ht : mt ρ3 with
          | none =>
            rw [ht] at q'
            exact q'
          | some z =>
            obtain ⟨b, ρ4⟩ := z
            rw [ht] at q'
            cases b with
            | false =>
              simp only at q'
              intro H4 r4
              rw [if_neg Bool.false_ne_true]
              split at q'
              · rename_i hf4
                have r5 := r4.wiped (List.all_eq_true.mp hf4)
                rw [w3] at r5
                exact ⟨ρ4, acc, r5, q'⟩
              · exact q'.elim
            | true =>
              simp only at q'
              intro H4 r4
              rw [if_pos rfl]
              refine sE c σ3 ρ4 _ H4 _ r4 ?_
              cases hm : m ρ4 with
              | none =>
                rw [hm] at q'
                exact q'
              | some z =>
                obtain ⟨y, ρ5⟩ := z
                rw [hm] at q'
                simp only at q'
                intro vy H5 r5
                split at q'
                · rename_i hf5
                  have r6 : Rel K c σ3 ρ5 ((.ref D, .own true (.lst acc)) :: (vy, .val y) :: (Tk ++ T)) H5 := r5.perm (by
                    have p1 : ((vy, Ent.val y) :: (Tk ++ (V.ref D, Ent.own true (Cell.lst acc)) :: T)).Perm ((vy, Ent.val y) :: (V.ref D, Ent.own true (Cell.lst acc)) :: (Tk ++ T)) := List.Perm.cons _ List.perm_middle
                    exact p1.trans (List.Perm.swap _ _ _))
                  obtain ⟨a, us, e, hH, hlen, r7⟩ := r6.write (fun us => us ++ [vy]) (ds' := acc ++ [y]) fun F fp us f rs => rs.app (.one f.top)
                  cases e
                  have r8 : Rel K c σ3 ρ5 (Tk ++ ((.ref D, .own true (.lst (acc ++ [y]))) :: T)) (upd H5 D (.lst (us ++ [vy]))) := ((r7.swap).pop).perm List.perm_middle.symm
                  have r9 := r8.wiped (List.all_eq_true.mp hf5.2)
                  rw [w3] at r9
                  exact ⟨us, hH, sz5l (by omega), ρ5, _, r9, q'⟩
                · exact q'.elim
      · have e : i = ds.length := by omega
        subst e
        rw [List.drop_length] at q'
        refine .inl ⟨(W _ _ _ H' r' ds.length).2 (Nat.le_refl _), ?_⟩
        have q' : ∀ v H, Rel K c σ (wipeE ρ' vs) ((v, .own true (.lst acc)) :: T) H → Q v H := q'
        exact q' _ _ (Rel.unwipe r'.drop)
    · exact q.elim
theorem sem_fz {K : PySem.W.Frag} {t : TE} {m : MO} (s : SemO K t m) : SemV K t (mFz m) := fun c σ ρ T H Q r q => by
  refine s c σ ρ T H Q r ?_
  unfold mFz at q
  cases hm : m ρ with
  | none =>
    rw [hm] at q
    exact q
  | some z =>
    obtain ⟨e0, ρ1⟩ := z
    rw [hm] at q
    simp only at q
    cases hf : fz e0 with
    | none =>
      rw [hf] at q
      exact False.elim q
    | some d =>
      rw [hf] at q
      exact fun v H1 r1 => q v H1 (r1.fz hf)
section
variable {Y : Fam} {pos : Pos} {elt tg iter : Expr} {ifs : List Expr} {scope : Scope} {own : List (Str × Nat)} {n : MI} {g : MG} {t : MT} {m : MV} {sl : List Nat}
theorem j_lc (own : List (Str × Nat)) (hi : JI Y tg iter n) (hg : JG (Y.blk scope) tg g sl) (ht : JTs (Y.blk scope) ifs t) (he : JV (Y.blk scope) elt m) (ok : ∀ j, BlkOk (Y.X j).N (Y.X j).env.scope scope own) (hsl : ∀ i ∈ sl, i ∈ own.map (·.2) := by decide) (hN : ∀ j, (Y.X j).N.Nodup := by assumption)
    (hs : ∀ j x, foldedSetIterable iter (Y.X j).env x = pure x := by intro _ _; rfl) : JO Y (.ListComp elt [⟨tg, iter, ifs, 0⟩] scope pos) (mLc n g t m (own.map (·.2))) := by
  obtain ⟨wi, p1, s1⟩ := hi
  obtain ⟨u, p2, s2⟩ := hg
  obtain ⟨tt, p3, s3⟩ := ht
  obtain ⟨te, p4, s4⟩ := he
  exact ⟨_, fun j => pe_lc (Y.calm j) (hN j) (p1 j) (ok j) (fun s H C cl fp => p2 (j, s, H, C, cl, fp)) (fun s H C cl fp => p3 (j, s, H, C, cl, fp)) (fun s H C cl fp => p4 (j, s, H, C, cl, fp)) (hs j), sem_lc s1 s2 s3 s4 hsl⟩
theorem s_lcO (i : Nat) {y : Str} {py spos : Pos} (own : List (Str × Nat)) (hi : JI Y tg iter n) (hg : JG (Y.blk scope) tg g sl) (ht : JTs (Y.blk scope) ifs t) (he : JV (Y.blk scope) elt m) (ok : ∀ j, BlkOk (Y.X j).N (Y.X j).env.scope scope own) (hsl : ∀ i ∈ sl, i ∈ own.map (·.2) := by decide) (hN : ∀ j, (Y.X j).N.Nodup := by assumption)
    (hy : ∀ j, (Y.X j).N[i]? = some y := by intro _; rfl) (hyl : ∀ j, (Y.X j).env.scope.names.lookup y = some .local := by intro _; rfl) (hsw : ∀ j, swapsWith (.ListComp elt [⟨tg, iter, ifs, 0⟩] scope pos) (some (.Name y py)) spos.line (Y.X j).env = pure true := by exact fun _ => sw_true rfl rfl rfl (by decide +kernel))
    (hs : ∀ j x, foldedSetIterable iter (Y.X j).env x = pure x := by intro _ _; rfl) : JS Y (.Assign [.Name y py] (.ListComp elt [⟨tg, iter, ifs, 0⟩] scope pos) spos) (mOwn (mLc n g t m (own.map (·.2))) i) := by
  obtain ⟨wi, p1, s1⟩ := hi
  obtain ⟨u, p2, s2⟩ := hg
  obtain ⟨tt, p3, s3⟩ := ht
  obtain ⟨te, p4, s4⟩ := he
  exact ⟨_, fun j => ps_setLc (Y.calm j) (hN j) (hy j) (hyl j) (hsw j) (p1 j) (ok j) (fun s H C cl fp => p2 (j, s, H, C, cl, fp)) (fun s H C cl fp => p3 (j, s, H, C, cl, fp)) (fun s H C cl fp => p4 (j, s, H, C, cl, fp)) (hs j), sem_own (sem_lc s1 s2 s3 s4 hsl)⟩
/-- the same, the list as data -/
def mOwnV (m : MV) (i : Nat) : MS := mOwn (mVal m) i
theorem sem_val {K : PySem.W.Frag} {t : TE} {m : MV} (s : SemV K t m) : SemO K t (mVal m) := fun c σ ρ T H Q r q => by
  refine s c σ ρ T H Q r ?_
  unfold mVal at q
  cases hm : m ρ with
  | none =>
    rw [hm] at q
    exact q
  | some z =>
    rw [hm] at q
    exact q
theorem s_lcV (i : Nat) {y : Str} {py spos : Pos} (own : List (Str × Nat)) (hi : JI Y tg iter n) (hg : JG (Y.blk scope) tg g sl) (ht : JTs (Y.blk scope) ifs t) (he : JV (Y.blk scope) elt m) (ok : ∀ j, BlkOk (Y.X j).N (Y.X j).env.scope scope own) (hsl : ∀ i ∈ sl, i ∈ own.map (·.2) := by decide) (hN : ∀ j, (Y.X j).N.Nodup := by assumption)
    (hy : ∀ j, (Y.X j).N[i]? = some y := by intro _; rfl) (hyl : ∀ j, (Y.X j).env.scope.names.lookup y = some .local := by intro _; rfl) (hsw : ∀ j, swapsWith (.ListComp elt [⟨tg, iter, ifs, 0⟩] scope pos) (some (.Name y py)) spos.line (Y.X j).env = pure true := by exact fun _ => sw_true rfl rfl rfl (by decide +kernel))
    (hs : ∀ j x, foldedSetIterable iter (Y.X j).env x = pure x := by intro _ _; rfl) : JS Y (.Assign [.Name y py] (.ListComp elt [⟨tg, iter, ifs, 0⟩] scope pos) spos) (mOwnV (mFz (mLc n g t m (own.map (·.2)))) i) := by
  obtain ⟨wi, p1, s1⟩ := hi
  obtain ⟨u, p2, s2⟩ := hg
  obtain ⟨tt, p3, s3⟩ := ht
  obtain ⟨te, p4, s4⟩ := he
  exact ⟨_, fun j => ps_setLc (Y.calm j) (hN j) (hy j) (hyl j) (hsw j) (p1 j) (ok j) (fun s H C cl fp => p2 (j, s, H, C, cl, fp)) (fun s H C cl fp => p3 (j, s, H, C, cl, fp)) (fun s H C cl fp => p4 (j, s, H, C, cl, fp)) (hs j), sem_own (sem_val (sem_fz (sem_lc s1 s2 s3 s4 hsl)))⟩
end
/-! ### lists that a def owns -/
def mApp (j : Nat) (m : MV) : MO := fun ρ => match ρ[j]? with
  | some (.own _ (.lst _)) => match m ρ with
    | none => none
    | some (d, ρ) => match ρ[j]? with
      | some (.own fr (.lst ds)) => if ds.length < 100000 then some (.val .none, ρ.set j (.own fr (.lst (ds ++ [d])))) else none
      | _ => none
  | _ => none
theorem Rel.lstOwn {K : PySem.W.Frag} {c : Ct} {σ : L2.St} {ρ : En} {T : Tm} {H : Hp} {j : Nat} {fr : Bool} {ds : List PyData} (r : Rel K c σ ρ T H) (he : ρ[j]? = some (.own fr (.lst ds))) : ∃ a vs, σ[j]? = some (some (.ref a)) ∧ H a = some (.lst vs) ∧ vs.length = ds.length := by
  obtain ⟨v, hv⟩ := r.ownv he
  obtain ⟨F, fp, f⟩ := r.take hv he
  obtain ⟨a, vs, rfl, h1, h2⟩ := f.lstTop
  exact ⟨a, vs, hv, h1, h2.length⟩
theorem Rel.put_back {K : PySem.W.Frag} {c : Ct} {σ : L2.St} {ρ : En} {T : Tm} {H H' : Hp} {j : Nat} {fr : Bool} {ce ce' : Cell} {v : V} (r0 : Rel K c σ ρ T H) (he : ρ[j]? = some (.own fr ce)) (hv : σ[j]? = some (some v)) {S : Tm} (r : Rel K c σ (ρ.set j .lent) ((v, .own fr ce') :: S) H') : Rel K c σ (ρ.set j (.own fr ce')) S H' := by
  have q := r.back hv fun w z => by
    have y := r0.pinned z he
    cases fr with
    | false => rfl
    | true => cases y
  rw [List.set_set] at q
  exact q
section
variable {Y : Fam} {e : Expr} {apos cpos : Pos}
theorem j_app (j : Nat) {x : Str} {p : Pos} {m : MV} (h : JV Y e m) (hN : ∀ i, (Y.X i).N[j]? = some x := by intro _; rfl) (hv : ∀ i, Vis (Y.X i).env.scope x := by first | exact fun _ => Or.inl rfl | exact fun _ => Or.inr (Or.inl rfl) | exact fun _ => Or.inr (Or.inr rfl)) (hd : (x == ("__debug__" : Str)) = false := by decide) (hcd : (x == ("__classdict__" : Str)) = false := by decide)
    (hbase : ∀ i, attributeBase (.Name x p) "append" (Y.X i).env (eval (.Name x p) (Y.X i).env) = eval (.Name x p) (Y.X i).env := by intro _; rfl)
    (hfew : ∀ i, ((backTo cpos (starEach [e] (Y.X i).env)).all (fun x => !x.1) && (backToKw cpos (keywordEach [] (Y.X i).env)).all (fun x => x.1.isSome) && decide ([e].length + ([] : List Keyword).length + (if ([] : List Keyword).isEmpty then 0 else 1) < 30)) = true := by intro _; rfl)
    (hline : (apos.endLine == cpos.line) = true := by rfl) (hs : ∀ i, starEach [e] (Y.X i).env = (false, eval e (Y.X i).env) :: starEach [] (Y.X i).env := by intro _; rfl) (hplain : ∀ i, (backTo cpos (starEach [] (Y.X i).env)).any (·.1) = false := by intro _; rfl) : JO Y (.Call (.Attribute (.Name x p) "append" apos) [e] [] cpos) (mApp j m) := by
  obtain ⟨t, pa, s⟩ := h
  refine ⟨tBM Y.K "list" rAppend (tVar j) (tCons t tNil), fun i => by rw [← Y.hK i]; exact pe_bm PySem.F.plainAttrs_list PySem.F.slot_list_append PySem.F.type_list_append mt_append (pe_var (hN i) (hv i) hd hcd) (pa_cons (pa i) pa_nil (hs i)) (hbase i) (hfew i) hline (hs i) (hplain i), fun c σ ρ T H Q r q => ?_⟩
  unfold mApp at q
  split at q
  · rename_i fr0 ds0 he0
    obtain ⟨a0, vs0, hv0, hH0, _⟩ := r.lstOwn he0
    refine ⟨_, hv0, .inl ⟨rfl, vs0, .inl (.inl hH0)⟩, s c σ ρ T H _ r ?_⟩
    cases hm : m ρ with
    | none =>
      rw [hm] at q
      exact q
    | some z =>
      obtain ⟨d, ρ1⟩ := z
      rw [hm] at q
      simp only at q
      intro vd H1 r1
      split at q
      · rename_i fr ds he
        split at q
        · rename_i hl
          obtain ⟨v, hv'⟩ := r1.ownv he
          have : v = .ref a0 := by
            rw [hv0] at hv'
            cases hv'
            rfl
          subst this
          obtain ⟨a, us, e, hH, hlen, r2⟩ := (r1.take hv' he).write (fun us => us ++ [vd]) (ds' := ds ++ [d]) fun F fp us f rs => rs.app (.one f.top)
          cases e
          refine ⟨a0, us, vd, rfl, rfl, hH, sz5l (by omega), q _ _ ?_⟩
          exact Rel.pushN (r1.put_back he hv' (r2.swap.pop))
        · exact q.elim
      · exact q.elim
  · exact q.elim
def mExt (j : Nat) (m : MV) : MO := fun ρ => match ρ[j]? with
  | some (.own _ (.lst _)) => match m ρ with
    | some (.list es, ρ) => match ρ[j]? with
      | some (.own fr (.lst ds)) => if ds.length + es.length ≤ 100000 then some (.val .none, ρ.set j (.own fr (.lst (ds ++ es)))) else none
      | _ => none
    | _ => none
  | _ => none
theorem j_ext (j : Nat) {x : Str} {p : Pos} {m : MV} (h : JV Y e m) (hN : ∀ i, (Y.X i).N[j]? = some x := by intro _; rfl) (hv : ∀ i, Vis (Y.X i).env.scope x := by first | exact fun _ => Or.inl rfl | exact fun _ => Or.inr (Or.inl rfl) | exact fun _ => Or.inr (Or.inr rfl)) (hd : (x == ("__debug__" : Str)) = false := by decide) (hcd : (x == ("__classdict__" : Str)) = false := by decide)
    (hbase : ∀ i, attributeBase (.Name x p) "extend" (Y.X i).env (eval (.Name x p) (Y.X i).env) = eval (.Name x p) (Y.X i).env := by intro _; rfl)
    (hfew : ∀ i, ((backTo cpos (starEach [e] (Y.X i).env)).all (fun x => !x.1) && (backToKw cpos (keywordEach [] (Y.X i).env)).all (fun x => x.1.isSome) && decide ([e].length + ([] : List Keyword).length + (if ([] : List Keyword).isEmpty then 0 else 1) < 30)) = true := by intro _; rfl)
    (hline : (apos.endLine == cpos.line) = true := by rfl) (hs : ∀ i, starEach [e] (Y.X i).env = (false, eval e (Y.X i).env) :: starEach [] (Y.X i).env := by intro _; rfl) (hplain : ∀ i, (backTo cpos (starEach [] (Y.X i).env)).any (·.1) = false := by intro _; rfl) : JO Y (.Call (.Attribute (.Name x p) "extend" apos) [e] [] cpos) (mExt j m) := by
  obtain ⟨t, pa, s⟩ := h
  refine ⟨tBM Y.K "list" rExtend (tVar j) (tCons t tNil), fun i => by rw [← Y.hK i]; exact pe_bm PySem.F.plainAttrs_list PySem.F.slot_list_extend PySem.F.type_list_extend mt_extend (pe_var (hN i) (hv i) hd hcd) (pa_cons (pa i) pa_nil (hs i)) (hbase i) (hfew i) hline (hs i) (hplain i), fun c σ ρ T H Q r q => ?_⟩
  unfold mExt at q
  split at q
  · rename_i fr0 ds0 he0
    obtain ⟨a0, vs0, hv0, hH0, _⟩ := r.lstOwn he0
    refine ⟨_, hv0, .inl ⟨rfl, vs0, .inl (.inl hH0)⟩, s c σ ρ T H _ r ?_⟩
    split at q
    · rename_i es ρ1 hm
      rw [hm]
      intro vd H1 r1
      split at q
      · rename_i fr ds he
        split at q
        · rename_i hl
          obtain ⟨v, hv'⟩ := r1.ownv he
          have : v = .ref a0 := by
            rw [hv0] at hv'
            cases hv'
            rfl
          subst this
          have hes := r1.top.lstAt
          obtain ⟨b, ws, rfl, hb, hbr⟩ := hes
          obtain ⟨a, us, e, hH, hlen, r2⟩ := (r1.take hv' he).write (fun us => us ++ ws) (ds' := ds ++ es) fun F fp us f rs => by
            obtain ⟨b', ws', e', hb', hbr'⟩ := f.top.lstAt
            cases e'
            have := f.fh _ _ hb'
            rw [hb] at this
            cases this
            exact rs.app hbr'
          cases e
          have hl2 := hbr.length
          refine ⟨a0, b, us, ws, rfl, rfl, hH, hb, sz5 (by omega), q _ _ ?_⟩
          exact Rel.pushN (r1.put_back he hv' (r2.swap.pop))
        · exact q.elim
      · exact q.elim
    · exact q.elim
  · exact q.elim
end
end Fj

set_option Elab.async false
set_option linter.all false
set_option maxRecDepth 100000
set_option maxHeartbeats 4000000
set_option autoImplicit false
/-! Defs: a mirror's promise, and the rules of calls. -/
namespace Fj
open PySem PySem.Spec PyProof.Rows L2

abbrev MF := List Ent → Option (Ent × List Ent)
def Ct.open (c : Ct) : Ct := { c with pins := [] }
def resE : Ent → Bool
  | .val _ => true
  | .own true _ => true
  | _ => false
def PostF (K : PySem.W.Frag) (c : Ct) (vs : List V) (r : Option (Ent × List Ent)) (Q : VK) : Prop := match r with
  | none => False
  | some (e, outs) => ∀ v H', Rel K c.open (vs.map some) outs [(v, e)] H' → Q v H'
def SpF (K : PySem.W.Frag) (n : Nat) (m : MF) (vs : List V) (H : Hp) (Q : VK) : Prop := ∃ (c : Ct) (ins : List Ent), c.H0 = H ∧ vs.length = n ∧ Rel K c (vs.map some) ins [] H ∧ (∀ (i : Nat) (fr : Bool) (ce : Cell), ins[i]? = some (Ent.own fr ce) → ∃ w, c.pins[i]? = some (some w)) ∧ PostF K c vs (m ins) Q
/-- a def of the text: what a call of it does is what its mirror says -/
structure FnG (P : Program) (w : World) (K : PySem.W.Frag) (mg : Str → Option Value) (base : Heap) (k : Nat) (f : Addr) (fd : FuncData) (ps : List Str) (m : MF) : Prop where
  go : ∀ (A : Around) (outer : List Env) (s : Shared) (H : Hp) (args : Args) (us : List Value) (vs : List V) (Q : VK), Room k A → A.guards = some [] → Env0 P w K mg base A outer s H → BindsTo s fd args (ps.zip us) → Vals vs us → SpF K ps.length m vs H Q →
    codeAny (model P w) A (.call (.ref f) args) (CR CX0 outer P w H s Q E0) s
theorem FnG.mono {P : Program} {w : World} {K : PySem.W.Frag} {mg : Str → Option Value} {base : Heap} {j k : Nat} {f : Addr} {fd : FuncData} {ps : List Str} {m : MF} (F : FnG P w K mg base j f fd ps m) (h : j ≤ k) : FnG P w K mg base k f fd ps m :=
  ⟨fun A outer s H args us vs Q hr => F.go A outer s H args us vs Q (hr.mono h)⟩

/-! ### a body keeps it -/
def bodyFam (P : Program) (w : World) (K : PySem.W.Frag) (mg : Str → Option Value) (base : Heap) (N : List Str) (qual : Str) (scope : Scope) (f : Addr) (cdv : Value) (A : Around) (outer : List Env) (s : Shared) (H : Hp) (k : Nat)
    (hr : Room k (A.deeper (envOfC qual scope s.heap.objs.size f cdv))) (hg : A.guards = some []) : Fam where
  I := Unit
  X := fun _ => (cxOf CX0 P w K mg base N qual scope f cdv A outer s H E0).nox
  P := P
  w := w
  K := K
  mg := mg
  base := base
  k := k
  hP := fun _ => rfl
  hw := fun _ => rfl
  hK := fun _ => rfl
  hmg := fun _ => rfl
  hbase := fun _ => rfl
  calm := fun _ => rfl
  gd := fun _ => hg
  room := fun _ => hr
def outE (a b : Ent) : Ent := match a with
  | .own _ _ => (match b with
    | .own _ _ => b
    | _ => .no)
  | _ => .no
def outsE : List Ent → En → List Ent
  | a :: as, b :: bs => outE a b :: outsE as bs
  | a :: as, [] => .no :: outsE as []
  | [], _ => []
def mFn (n : Nat) (body : MS) : MF := fun ins => match body (ins ++ List.replicate (n - ins.length) Ent.no) with
  | some (.rt e ρ) => some (e, outsE ins ρ)
  | some (.nx ρ) => some (.val .none, outsE ins ρ)
  | _ => none
section
variable {K : PySem.W.Frag} {c : Ct} {H F : Hp}
theorem slots_no : ∀ k : Nat, Slots K c F H ((List.replicate k (none : Option V)).zip (List.replicate k Ent.no)) []
  | 0 => .nil
  | k + 1 => Slots.cons (fc := []) (.no _) (slots_no k)
theorem zip_app {α β : Type} : ∀ {xs : List α} {ys : List β} {xs' : List α} {ys' : List β}, xs.length = ys.length → (xs ++ xs').zip (ys ++ ys') = xs.zip ys ++ xs'.zip ys'
  | [], [], _, _, _ => rfl
  | [], y :: ys, _, _, h => by cases h
  | x :: xs, [], _, _, h => by cases h
  | x :: xs, y :: ys, xs', ys', h => by
    show (x, y) :: (xs ++ xs').zip (ys ++ ys') = (x, y) :: (xs.zip ys ++ xs'.zip ys')
    rw [zip_app (Nat.succ.inj h)]
theorem Rel.pad {σ : L2.St} {ρ : En} {T : Tm} (k : Nat) (r : Rel K c σ ρ T H) : Rel K c (σ ++ List.replicate k none) (ρ ++ List.replicate k Ent.no) T H := by
  obtain ⟨F, fp, r⟩ := r
  have sl : Slots K c F H (tmp T ++ (σ ++ List.replicate k none).zip (ρ ++ List.replicate k Ent.no)) (fp ++ []) := by
    rw [zip_app r.len, ← List.append_assoc]
    exact r.sl.app (slots_no k)
  rw [List.append_nil] at sl
  refine ⟨F, fp, r.f0, r.fh, r.new, r.keep, r.trk, sl, r.nd, r.own, by simp [r.len], fun j w z => ?_⟩
  obtain ⟨z1, e0, z2, z3⟩ := r.pin j w z
  exact ⟨by rw [List.getElem?_append_left (List.getElem?_eq_some_iff.mp z1).1]; exact z1, e0, by rw [List.getElem?_append_left (List.getElem?_eq_some_iff.mp z2).1]; exact z2, z3⟩
theorem slots_outs0 : ∀ (vs : List V) (ins : List Ent), Slots K c F H ((vs.map some).zip (outsE ins [])) []
  | [], ins => .nil
  | v :: vs, [] => .nil
  | v :: vs, a :: ins => Slots.cons (fc := []) (.no _) (slots_outs0 vs ins)
theorem Slots.outs : ∀ {vs : List V} {ins : List Ent} {σ : L2.St} {ρ : En} {fp : List Addr}, vs.length = ins.length → σ.length = ρ.length → (∀ (i : Nat) (fr : Bool) (ce : Cell), ins[i]? = some (Ent.own fr ce) → σ[i]? = (vs[i]?).map some) → Slots K c F H (σ.zip ρ) fp →
    ∃ fq, fq.Sublist fp ∧ Slots K c F H ((vs.map some).zip (outsE ins ρ)) fq
  | [], [], σ, ρ, fp, _, _, _, h => ⟨[], List.nil_sublist _, .nil⟩
  | [], _ :: _, _, _, _, h, _, _, _ => by cases h
  | _ :: _, [], _, _, _, h, _, _, _ => by cases h
  | v :: vs, a :: ins, [], [], fp, _, _, _, _ => ⟨[], List.nil_sublist _, slots_outs0 (v :: vs) (a :: ins)⟩
  | v :: vs, a :: ins, [], b :: ρ, fp, _, hl, _, _ => by cases hl
  | v :: vs, a :: ins, x :: σ, [], fp, _, hl, _, _ => by cases hl
  | v :: vs, a :: ins, x :: σ, b :: ρ, fp, h1, h2, h4, h => by
    have h0 : Slots K c F H ((x, b) :: σ.zip ρ) fp := h
    clear h
    cases h0 with
    | @cons _ fc fr _ h t =>
      obtain ⟨fq, sub, q⟩ := Slots.outs (Nat.succ.inj h1) (Nat.succ.inj h2) (fun i fr ce z => h4 (i + 1) fr ce z) t
      show ∃ fq, fq.Sublist (fc ++ fr) ∧ Slots K c F H ((some v, outE a b) :: (vs.map some).zip (outsE ins ρ)) fq
      by_cases ha : ∃ f1 c1 f2 c2, a = .own f1 c1 ∧ b = .own f2 c2
      · obtain ⟨f1, c1, f2, c2, rfl, rfl⟩ := ha
        have e := h4 0 f1 c1 rfl
        have e : some x = some (some v) := e
        cases e
        exact ⟨fc ++ fq, List.Sublist.append_left sub _, .cons h q⟩
      · have e : outE a b = .no := by
          cases a <;> cases b <;> first | rfl | exact absurd ⟨_, _, _, _, rfl, rfl⟩ ha
        rw [e]
        exact ⟨fq, sub.trans (List.sublist_append_right _ _), Slots.cons (fc := []) (.no _) q⟩
theorem outsE_length : ∀ (ins : List Ent) (ρ : En), (outsE ins ρ).length = ins.length
  | [], _ => rfl
  | a :: as, [] => congrArg Nat.succ (outsE_length as [])
  | a :: as, b :: bs => congrArg Nat.succ (outsE_length as bs)
theorem Rel.outs {σ : L2.St} {ρ : En} {v : V} {e : Ent} {vs : List V} {ins : List Ent} (r : Rel K c σ ρ [(v, e)] H) (hl : vs.length = ins.length) (h4 : ∀ (i : Nat) (fr : Bool) (ce : Cell), ins[i]? = some (Ent.own fr ce) → σ[i]? = (vs[i]?).map some) : Rel K c.open (vs.map some) (outsE ins ρ) [(v, e)] H := by
  obtain ⟨F, fp, r⟩ := r
  obtain ⟨f1, f2, e0, s1, s2⟩ := Slots.split r.sl
  subst e0
  obtain ⟨fq, sub, q⟩ := Slots.outs hl r.len h4 s2
  have sub2 : (f1 ++ fq).Sublist (f1 ++ f2) := List.Sublist.append_left sub _
  have up : ∀ {l : List (Option V × Ent)} {f : List Addr}, Slots K c F H l f → Slots K c.open F H l f := by
    intro l f h
    induction h with
    | nil => exact .nil
    | cons h t ih =>
      refine .cons ?_ ih
      cases h with
      | no x => exact .no x
      | val r => exact .val r
      | own r h => exact .own r h
      | scr h w => exact .scr h w
      | lent x => exact .lent x
      | fzo h l r => exact .fzo h l r
  exact ⟨F, f1 ++ fq, r.f0, r.fh, r.new, r.keep, r.trk, (up s1).app (up q), r.nd.sublist sub2, fun a ha => r.own a (sub2.mem ha), by rw [List.length_map, outsE_length]; exact hl, fun i w z => by cases z⟩
end
theorem fnG_of {P : Program} {w : World} {K : PySem.W.Frag} {mg : Str → Option Value} {base : Heap} {k : Nat} {x qual : Str} {params : Arguments} {body : List Stmt} {scope : Scope} {dvs : List V} {kws : List (Str × V)} {f : Addr} {fd : FuncData} {N ps : List Str} {m : MS}
    (F : FunD K x qual params body scope dvs kws f fd) (S : FnScope N ps scope)
    (hb : ∀ (cdv : Value) (A : Around) (outer : List Env) (s : Shared) (H : Hp) (hr : Room k (A.deeper (envOfC qual scope s.heap.objs.size f cdv))) (hg : A.guards = some []), JB (bodyFam P w K mg base N qual scope f cdv A outer s H k hr hg) body m) : FnG P w K mg base (k + 1) f fd ps (mFn N.length m) := by
  obtain ⟨oc, od, dV, kV, doc, pm, an, cdv, ct, osl, rfl, lk, hcd, _, _⟩ := F.ex
  refine ⟨fun A outer s H args us vs Q hr hg e0 hbind rv sp => ?_⟩
  obtain ⟨c, ins, hH, hn, rel, hpin, post⟩ := sp
  have kin : K.In s.heap := e0.mod.kin.keeps fun b o e => (e0.bs b o e).1
  have nolim : s.heap.NoLimit := e0.mod.nolimit.keeps fun b o e => (e0.bs b o e).1
  have hins : vs.length = ins.length := by
    obtain ⟨_, _, r⟩ := rel
    have := r.len
    rwa [List.length_map] at this
  refine codeAny_call_function hr.depth (kin _ _ lk) rfl S.co S.gen rfl (PySem.W.codeRec_of kin hcd) (hbind _ _ _ _ ?_)
  refine wpAny_newFunctionEnv_cells S.kind (fun y hy => (S.par y.1 (List.of_mem_zip hy).1).imp id fun q => ⟨q, PySem.W.cellsFrom_some _ _ _ (.inl q)⟩) fun env he s1 st => ?_
  subst he
  refine ⟨nolim.keeps st.toInCall.keep, codeAny_func ?_⟩
  have hr' := hr.deeper (envOfC qual scope s.heap.objs.size f cdv)
  obtain ⟨t, hp, hs⟩ := hb cdv A outer s H hr' hg
  have inv : Inv (cxOf CX0 P w K mg base N qual scope f cdv A outer s H E0) [] (start N vs) H s1 := inv_start S hr.hd e0 hn rv st
  have hNl : vs.length ≤ N.length := by
    have := congrArg List.length S.pre
    rw [List.length_take] at this
    omega
  have rel1 : Rel K c (start N vs) (ins ++ List.replicate (N.length - ins.length) Ent.no) [] H := by
    have := rel.pad (N.length - vs.length)
    rw [← hins]
    exact this
  have own_ok : ∀ {σ' : L2.St} {ρ' : En} {v : V} {e : Ent} {H' : Hp}, Rel K c σ' ρ' [(v, e)] H' → Rel K c.open (vs.map some) (outsE ins ρ') [(v, e)] H' := fun {σ' ρ' v e H'} r => by
    refine r.outs hins fun i fr ce z => ?_
    obtain ⟨w', hw⟩ := hpin i fr ce z
    obtain ⟨_, _, r1⟩ := r
    obtain ⟨_, _, r2⟩ := rel
    have a1 := (r1.pin i w' hw).1
    have a2 := (r2.pin i w' hw).1
    rw [List.getElem?_map] at a2
    rw [a1, ← a2]
  have wp := (hp ()).nox.run [] s1 (start N vs) H { nx := fun _ H' => Q .non H', rt := Q } inv ?_
  · refine wpAny_mono wp (fun fl s' hq => ?_) fun e s' hq => hq
    cases fl with
    | ret u =>
      obtain ⟨v, σ', H', J, rv', q⟩ := hq
      exact ⟨v, H', J.os, J.bare, J.base, J.hok, rv', q⟩
    | next =>
      obtain ⟨σ', H', J, q⟩ := hq
      exact ⟨V.non, H', J.os, J.bare, J.base, J.hok, rfl, q⟩
    | brk =>
      obtain ⟨_, _, _, q⟩ := hq
      exact q.elim
    | cont =>
      obtain ⟨_, _, _, q⟩ := hq
      exact q.elim
  · refine hs c (start N vs) _ [] H _ rel1 ?_
    unfold mFn at post
    cases hm : m (ins ++ List.replicate (N.length - ins.length) Ent.no) with
    | none =>
      rw [hm] at post
      exact post
    | some fl =>
      rw [hm] at post
      cases fl with
      | nx ρ => exact fun σ' H' r => post _ _ (own_ok r.pushN)
      | rt e ρ => exact fun σ' v H' r => post _ _ (own_ok r)
      | bk ρ => exact post.elim
      | ct ρ => exact post.elim
end Fj

set_option Elab.async false
set_option linter.all false
set_option maxRecDepth 100000
set_option maxHeartbeats 4000000
set_option autoImplicit false
/-! Calls of defs. -/
namespace Fj
open PySem PySem.Spec PyProof.Rows L2

def pick {α : Type} (p : List Nat) (xs : List α) : List α := p.filterMap fun i => xs[i]?
theorem pick_vals {xs : List V} {us : List Value} (r : Vals xs us) : ∀ p : List Nat, Vals (pick p xs) (pick p us)
  | [] => .nil
  | i :: p => by
    unfold pick
    rw [List.filterMap_cons, List.filterMap_cons]
    cases hx : xs[i]? with
    | none =>
      rw [r.none_of hx]
      exact pick_vals r p
    | some x =>
      obtain ⟨u, hu, ru⟩ := r.get hx
      rw [hu]
      exact .cons ru (pick_vals r p)
theorem pick_len {α : Type} {xs : List α} : ∀ p : List Nat, (∀ i ∈ p, i < xs.length) → (pick p xs).length = p.length
  | [], _ => rfl
  | i :: p, h => by
    unfold pick
    rw [List.filterMap_cons, List.getElem?_eq_getElem (h i (List.mem_cons_self ..))]
    exact congrArg Nat.succ (pick_len p fun j hj => h j (List.mem_cons_of_mem _ hj))
theorem pick_rps {K : PySem.W.Frag} {F : Hp} {vs : List V} {ds : List PyData} (r : Rps K F vs ds) : ∀ p : List Nat, Rps K F (pick p vs) (pick p ds)
  | [] => .nil
  | i :: p => by
    unfold pick
    rw [List.filterMap_cons, List.filterMap_cons]
    cases hd : ds[i]? with
    | none =>
      have hv : vs[i]? = none := by
        rw [List.getElem?_eq_none_iff] at hd ⊢
        rw [r.length]
        exact hd
      rw [hv]
      exact pick_rps r p
    | some d =>
      obtain ⟨v, hv, rv⟩ := r.get hd
      rw [hv]
      exact .cons rv (pick_rps r p)
/-! ### what a callee finds and leaves -/
section
variable {K : PySem.W.Frag} {c : Ct} {σ : L2.St} {ρ : En} {T : Tm} {H F : Hp} {fp : List Addr}
theorem slots_vals {vs : List V} {ds : List PyData} (r : Rps K F vs ds) : Slots K c F H ((vs.map some).zip (ds.map Ent.val)) [] := by
  induction ds generalizing vs with
  | nil =>
    cases r
    exact .nil
  | cons d ds ih =>
    cases r with
    | cons h t => exact Slots.cons (fc := []) (.val h) (ih t)
theorem RelF.callIn (f : RelF K c σ ρ T H F fp) {vs : List V} {ds : List PyData} (r : Rps K F vs ds) : Rel K ⟨F, H, fun _ => False, [], c.gn⟩ (vs.map some) (ds.map Ent.val) [] H :=
  ⟨F, [], fun _ _ z => z, f.fh, fun a z => .inl z, fun a o z _ => z, fun a z => z, slots_vals r, List.nodup_nil, fun a z => (List.not_mem_nil z).elim, (by rw [List.length_map, List.length_map]; exact r.length), fun i v z => by cases z⟩
theorem SlotOk.res {c' : Ct} {e : Ent} {v : V} {fc : List Addr} (h : SlotOk K c' F H (some v, e) fc) (he : resE e = true) (hz : ∀ a ∈ fc, c.H0 a = none) (hg : c'.gn = c.gn := by rfl) : SlotOk K c F H (some v, e) fc := by
  cases h with
  | no x => cases he
  | val r => exact .val r
  | own r h => exact .own (hg ▸ r) fun _ => hz
  | scr h w => cases he
  | lent x => cases he
  | fzo h l r => cases he
/-- behind a call that was lent nothing -/
theorem RelF.callOut (f : RelF K c σ ρ T H F fp) {σ' : L2.St} {ρ' : En} {v : V} {e : Ent} {H' : Hp} (r : Rel K ⟨F, H, fun _ => False, [], c.gn⟩ σ' ρ' [(v, e)] H') (he : resE e = true) : Rel K c σ ρ ((v, e) :: T) H' := by
  obtain ⟨F', fp', r⟩ := r
  obtain ⟨fc, fq, e1, h, _⟩ := r.pop
  have own' : ∀ a ∈ fc, F' a = none ∧ H a = none := fun a ha => by
    obtain ⟨x, y⟩ := r.own a (by rw [e1]; exact List.mem_append_left _ ha)
    exact ⟨x, y.elim (fun z => z.elim) id⟩
  have back : ∀ a, H a = none → c.H0 a = none := fun a ha => by
    cases z : c.H0 a with
    | none => rfl
    | some o => exact absurd ha (f.trk a (by rw [z]; exact fun z => nomatch z))
  have kp : ∀ a o, H a = some o → H' a = some o := fun a o z => r.keep a o z fun z => z
  refine ⟨F', fc ++ fp, fun b u z => r.f0 b u (f.f0 b u z), r.fh, fun a z => ?_, fun a o z w => kp a o (f.keep a o z w), fun a z => r.trk a (f.trk a z), .cons (h.res he fun a ha => back a (own' a ha).2) (f.sl.stay r.f0 fun a ha => ?_), ?_, fun a ha => ?_, f.len, f.pin⟩
  · rcases r.new a z with y | y
    · exact f.new a y
    · exact .inr (back a y)
  · cases z : H a with
    | none => exact absurd z (f.sl.there a ha)
    | some o => exact kp a o z
  · refine List.nodup_append.mpr ⟨(List.nodup_append.mp (e1 ▸ r.nd)).1, f.nd, fun a ha b hb z => ?_⟩
    subst z
    exact f.sl.there a hb (own' a ha).2
  · rcases List.mem_append.mp ha with z | z
    · exact ⟨(own' a z).1, .inr (back a (own' a z).2)⟩
    · refine ⟨?_, (f.own a z).2⟩
      cases y : F' a with
      | none => rfl
      | some o =>
        rcases r.new a (by rw [y]; exact fun z => nomatch z) with q | q
        · exact absurd (f.own a z).1 q
        · exact absurd q (f.sl.there a z)
/-- ahead of a call that is lent the top cell -/
theorem RelF.lendIn {vr : V} {fr : Bool} {ce : Cell} (f : RelF K c σ ρ ((vr, .own fr ce) :: T) H F fp) {vs : List V} {ds : List PyData} (r : Rps K F vs ds) : ∃ fc : List Addr, (∃ fq, CellAt K c.gn F H vr ce fc ∧ RelF K c σ ρ T H F fq ∧ (fr = true → ∀ a ∈ fc, c.H0 a = none) ∧ fp = fc ++ fq) ∧
    Rel K ⟨F, H, fun a => a ∈ fc, [some vr], c.gn⟩ (some vr :: vs.map some) (.own false ce :: ds.map Ent.val) [] H := by
  obtain ⟨fc, fq, h1, h2, h3, h4, _⟩ := f.opn
  have hnd := f.nd
  rw [h4] at hnd
  have sl : Slots K ⟨F, H, fun a => a ∈ fc, [some vr], c.gn⟩ F H ((some vr, .own false ce) :: (vs.map some).zip (ds.map Ent.val)) (fc ++ []) := .cons (.own h1 fun z => by cases z) (slots_vals r)
  rw [List.append_nil] at sl
  refine ⟨fc, ⟨fq, h1, h2, h3, h4⟩, F, fc, fun _ _ z => z, f.fh, fun a z => .inl z, fun a o z _ => z, fun a z => z, sl, (List.nodup_append.mp hnd).1, fun a ha => ⟨(f.own a (by rw [h4]; exact List.mem_append_left _ ha)).1, .inl ha⟩, ?_, fun i v z => ?_⟩
  · rw [List.length_cons, List.length_cons, List.length_map, List.length_map, r.length]
  · cases i with
    | zero =>
      have z : some (some vr) = some (some v) := z
      cases z
      exact ⟨rfl, _, rfl, rfl⟩
    | succ i =>
      have z : ([] : List (Option V))[i]? = some (some v) := z
      simp at z
/-- and behind it -/
theorem RelF.lendOut {vr : V} {fr : Bool} {fq fc : List Addr} (f : RelF K c σ ρ T H F fq) (hfr : fr = true → ∀ a ∈ fc, c.H0 a = none) (nd : (fc ++ fq).Nodup) (hown : ∀ a ∈ fc, c.W a ∨ c.H0 a = none) {vs : List V} {outs : List Ent} {v : V} {e : Ent} {ce' : Cell} {H' : Hp}
    (r : Rel K ⟨F, H, fun a => a ∈ fc, [], c.gn⟩ (some vr :: vs.map some) (.own false ce' :: outs) [(v, e)] H') (he : resE e = true) : Rel K c σ ρ ((v, e) :: (vr, .own fr ce') :: T) H' := by
  obtain ⟨F', fp', r⟩ := r
  obtain ⟨fe, f2, e1, h, r2⟩ := r.pop
  have sl2 : Slots K ⟨F, H, fun a => a ∈ fc, [], c.gn⟩ F' H' ((some vr, .own false ce') :: (vs.map some).zip outs) f2 := r2.sl
  cases hs : sl2 with
  | @cons _ fd fz _ hd t =>
    have mem1 : ∀ a ∈ fe, a ∈ fp' := fun a ha => by rw [e1]; exact List.mem_append_left _ ha
    have mem2 : ∀ a ∈ fd, a ∈ fp' := fun a ha => by rw [e1]; exact List.mem_append_right _ (List.mem_append_left _ ha)
    have back : ∀ a, H a = none → c.H0 a = none := fun a ha => by
      cases z : c.H0 a with
      | none => rfl
      | some o => exact absurd ha (f.trk a (by rw [z]; exact fun z => nomatch z))
    have kp : ∀ a o, H a = some o → a ∉ fc → H' a = some o := fun a o z w => r.keep a o z w
    have hof : ∀ a ∈ fp', a ∈ fc ∨ H a = none := fun a ha => (r.own a ha).2
    have hcw : ∀ a ∈ fp', c.W a ∨ c.H0 a = none := fun a ha => (hof a ha).elim (hown a) fun z => .inr (back a z)
    have frfc : ∀ a, c.H0 a ≠ none → ¬ c.W a → a ∉ fc := fun a h1 h2 z => (hown a z).elim h2 h1
    have nq : ∀ a ∈ fq, a ∉ fc := fun a ha z => (List.nodup_append.mp nd).2.2 a z a ha rfl
    have ndp := r.nd
    rw [e1] at ndp
    have nd1 : (fe ++ fd).Nodup := ndp.sublist (List.Sublist.append_left (List.sublist_append_left _ _) _)
    have cl : CellAt K c.gn F' H' vr ce' fd := by
      cases hd with
      | own r h => exact r
    have hsl : SlotOk K c F' H' (some v, e) fe := by
      refine h.res he fun a ha => ?_
      cases h with
      | no x => cases ha
      | val r => cases ha
      | @own _ frr _ _ r hh =>
        cases frr with
        | false => cases he
        | true => exact back a (hh rfl a ha)
      | scr h w => cases ha
      | lent x => cases ha
      | fzo h l r => cases ha
    refine ⟨F', fe ++ (fd ++ fq), fun b u z => r.f0 b u (f.f0 b u z), r.fh, fun a z => ?_, fun a o z w => kp a o (f.keep a o z w) (frfc a (by rw [z]; exact fun z => nomatch z) w), fun a z => r.trk a (f.trk a z),
      .cons hsl (.cons (.own cl fun z a ha => (hof a (mem2 a ha)).elim (hfr z a) (back a)) (f.sl.stay r.f0 fun a ha => ?_)), ?_, fun a ha => ?_, f.len, f.pin⟩
    · rcases r.new a z with y | y
      · exact f.new a y
      · exact .inr (back a y)
    · cases z : H a with
      | none => exact absurd z (f.sl.there a ha)
      | some o => exact kp a o z (nq a ha)
    · rw [← List.append_assoc]
      refine List.nodup_append.mpr ⟨nd1, f.nd, fun a ha b hb z => ?_⟩
      subst z
      have hp : a ∈ fp' := (List.mem_append.mp ha).elim (mem1 a) (mem2 a)
      exact (hof a hp).elim (nq a hb) (f.sl.there a hb)
    · have one : ∀ a ∈ fp', F' a = none ∧ (c.W a ∨ c.H0 a = none) := fun a ha => ⟨(r.own a ha).1, hcw a ha⟩
      rcases List.mem_append.mp ha with z | z
      · exact one a (mem1 a z)
      · rcases List.mem_append.mp z with z | z
        · exact one a (mem2 a z)
        · refine ⟨?_, (f.own a z).2⟩
          cases y : F' a with
          | none => rfl
          | some o =>
            rcases r.new a (by rw [y]; exact fun z => nomatch z) with q | q
            · exact absurd (f.own a z).1 q
            · exact absurd q (f.sl.there a z)
end
/-! ### the rules -/
/-- how the arguments come to the parameters -/
structure BindG (K : PySem.W.Frag) (fd : FuncData) (ps : List Str) (n : Nat) (ks : List Str) (dvs : List V) (p : List Nat) : Prop where
  ex : ∃ its : List Value, Vals dvs its ∧ ∀ (s : Shared) (us ws : List Value), K.In s.heap → us.length = n → ws.length = ks.length → BindsTo s fd ⟨us, ks.zip ws⟩ (ps.zip (pick p (us ++ ws ++ its)))
def tCallG (K : PySem.W.Frag) (n nk np : Nat) (dvs : List V) (p : List Nat) (m : MF) (t tk : TA) : TE := fun σ H Q => t σ H fun vs H1 => tk σ H1 fun ws H2 => vs.length = n ∧ ws.length = nk ∧ SpF K np m (pick p (vs ++ ws ++ dvs)) H2 Q
theorem run_G {X : Cx} {k n : Nat} {f : Addr} {fd : FuncData} {ps ks : List Str} {m : MF} {dvs : List V} {p : List Nat} {pins : List (Addr × Obj)} {σ : L2.St} {H : Hp} {s : Shared} {Q : VK} {us ws : List Value} {vs zs : List V} (F : FnG X.prog X.w X.K X.mg X.base k f fd ps m) (hr : Room k X.A) (hg : X.A.guards = some []) (hb : BindG X.K fd ps n ks dvs p)
    (I : Inv X pins σ H s) (r : Vals vs us) (rz : Vals zs ws) (l1 : vs.length = n) (l2 : zs.length = ks.length) (h : SpF X.K ps.length m (pick p (vs ++ zs ++ dvs)) H Q) : wpAny (model X.prog X.w) X.A (call (.ref f) us (ks.zip ws)) (EP X pins σ Q) X.xe s := by
  obtain ⟨its, rd, bt⟩ := hb.ex
  have r2 := pick_vals ((r.append rz).append rd) p
  refine wpAny_call (codeAny_mono (F.go X.A X.stack s H ⟨us, ks.zip ws⟩ _ _ Q hr hg I.env0 (bt s us ws I.kIn (r.length.symm.trans l1) (rz.length.symm.trans l2)) r2 h) fun r s' hq => ?_)
  cases r with
  | error e => exact hq.elim
  | ok fl =>
    cases fl with
    | ret u => exact I.after hq
    | next => exact False.elim hq
    | brk => exact False.elim hq
    | cont => exact False.elim hq
section
variable {X : Cx} {k n : Nat} {f : Addr} {fd : FuncData} {ps ks : List Str} {m : MF} {dvs : List V} {p : List Nat} {x : Str} {pp pos : Pos} {e : Expr} {es : List Expr} {kws : List Keyword} {t tk : TA}
theorem pe_callG (F : FnG X.prog X.w X.K X.mg X.base k f fd ps m) (hr : Room k X.A) (hgd : X.A.guards = some []) (hg : Gl X x) (hm : X.mg x = some (.ref f)) (hk : PySem.W.keepIn X.K (.ref f) = true) (hb : BindG X.K fd ps n ks dvs p)
    (ha : PA X (e :: es) t) (hkw : PK X kws tk) (hall : (backToKw pos (keywordEach kws X.env)).all (·.1.isSome) = true) (hks : (backToKw pos (keywordEach kws X.env)).filterMap (·.1) = ks) (hdb : (x == ("__debug__" : Str)) = false) (he : starEach (e :: es) X.env = (false, eval e X.env) :: starEach es X.env)
    (hpl : ((backTo pos (starEach (e :: es) X.env)).any (·.1) || (backToKw pos (keywordEach kws X.env)).any (·.1.isNone)) = false) : PE X (.Call (.Name x pp) (e :: es) kws pos) (tCallG X.K n ks.length ps.length dvs p m t tk) := ⟨fun pins s σ H Q I h => by
  refine wpAny_Call_Name_kw (ld_glob I hg hm ?_ hdb)
  refine PySem.W.callWith_KW (h₀ := X.base) I.ok.mod.kin hk hall (thn (ha.run pos pins s σ H _ I h) fun us s1 q => ?_) hpl he
  obtain ⟨vs, H1, I1, r, q⟩ := q
  refine thn (hkw.run pos pins s1 σ H1 _ I1 q) fun ws s2 q2 => ?_
  obtain ⟨zs, H2, I2, rz, l1, l2, q2⟩ := q2
  refine ⟨I2.kIn, ?_⟩
  rw [hks]
  exact run_G F hr hgd hb I2 r rz l1 l2 q2⟩
theorem pe_callG0 (F : FnG X.prog X.w X.K X.mg X.base k f fd ps m) (hr : Room k X.A) (hgd : X.A.guards = some []) (hg : Gl X x) (hm : X.mg x = some (.ref f)) (hk : PySem.W.keepIn X.K (.ref f) = true) (hb : BindG X.K fd ps 0 ks dvs p)
    (hkw : PK X kws tk) (hall : (backToKw pos (keywordEach kws X.env)).all (·.1.isSome) = true) (hks : (backToKw pos (keywordEach kws X.env)).filterMap (·.1) = ks) (hdb : (x == ("__debug__" : Str)) = false)
    (hpl : ((backTo pos (starEach [] X.env)).any (·.1) || (backToKw pos (keywordEach kws X.env)).any (·.1.isNone)) = false) : PE X (.Call (.Name x pp) [] kws pos) (tCallG X.K 0 ks.length ps.length dvs p m tNil tk) := ⟨fun pins s σ H Q I h => by
  refine wpAny_Call_Name_kw (ld_glob I hg hm ?_ hdb)
  refine PySem.W.callWith_KW0 (h₀ := X.base) I.ok.mod.kin hk hall (thn (hkw.run pos pins s σ H _ I h) fun ws s2 q2 => ?_) hpl
  obtain ⟨zs, H2, I2, rz, l1, l2, q2⟩ := q2
  refine ⟨I2.kIn, ?_⟩
  rw [hks]
  exact run_G (us := []) F hr hgd hb I2 .nil rz l1 l2 q2⟩
end
def JK (Y : Fam) (kws : List Keyword) (m : MA) : Prop := ∃ t, (∀ i, PK (Y.X i) kws t) ∧ SemA Y.K t m
section
variable {Y : Fam} {e : Expr} {es : List Expr} {kws : List Keyword} {pos kpos : Pos} {nm : Option Str}
theorem k_nil : JK Y [] mNil := ⟨tNil, fun _ => pk_nil, fun _ _ _ _ H _ r q => q [] H rfl r⟩
theorem sem_cons {K : PySem.W.Frag} {t : TE} {u : TA} {m : MV} {n : MA} (s : SemV K t m) (s' : SemA K u n) : SemA K (tCons t u) (mCons m n) := fun c σ ρ T H Q r q => by
  refine s c σ ρ T H _ r ?_
  unfold mCons at q
  cases hm : m ρ with
  | none =>
    rw [hm] at q
    exact q
  | some z =>
    obtain ⟨d, ρ1⟩ := z
    rw [hm] at q
    simp only at q
    intro v H1 r1
    refine s' c σ ρ1 _ H1 _ r1 ?_
    cases hn : n ρ1 with
    | none =>
      rw [hn] at q
      exact q
    | some z =>
      obtain ⟨ds, ρ2⟩ := z
      rw [hn] at q
      intro vs H2 hl r2
      refine q (v :: vs) H2 (congrArg Nat.succ hl) ?_
      show Rel K c σ ρ2 ((tms vs ds ++ [(v, .val d)]) ++ T) H2
      rw [List.append_assoc]
      exact r2
theorem k_cons {m : MV} {n : MA} (h : JV Y e m) (g : JK Y kws n) : JK Y (⟨nm, e, kpos⟩ :: kws) (mCons m n) := by
  obtain ⟨t, p, s⟩ := h
  obtain ⟨u, p', s'⟩ := g
  exact ⟨tCons t u, fun j => pk_cons (p j) (p' j), sem_cons s s'⟩
/-- f(a, .., k = b, ..): dd the defaults, p the places of the parameters' values -/
def mCall (f : MF) (p : List Nat) (dd : List PyData) (n nk : MA) : MO := fun ρ => match n ρ with
  | none => none
  | some (ds, ρ) => match nk ρ with
    | none => none
    | some (es, ρ) => match f ((pick p (ds ++ es ++ dd)).map .val) with
      | some (e, _) => if resE e = true then some (e, ρ) else none
      | none => none
theorem sem_call {K : PySem.W.Frag} {f : MF} {p : List Nat} {dvs : List V} {dd : List PyData} {n nk : MA} {t tk : TA} {k1 k2 np : Nat} (s1 : SemA K t n) (s2 : SemA K tk nk) (hd : ∀ F, Rps K F dvs dd) (h1 : ∀ ρ ds ρ', n ρ = some (ds, ρ') → ds.length = k1) (h2 : ∀ ρ ds ρ', nk ρ = some (ds, ρ') → ds.length = k2)
    (hp : p.length = np ∧ ∀ i ∈ p, i < k1 + k2 + dd.length) : SemO K (tCallG K k1 k2 np dvs p f t tk) (mCall f p dd n nk) := fun c σ ρ T H Q r q => by
  refine s1 c σ ρ T H _ r ?_
  unfold mCall at q
  cases hn : n ρ with
  | none =>
    rw [hn] at q
    exact q
  | some z =>
    obtain ⟨ds, ρ1⟩ := z
    rw [hn] at q
    simp only at q
    intro vs H1 hl r1
    refine s2 c σ ρ1 _ H1 _ r1 ?_
    cases hk : nk ρ1 with
    | none =>
      rw [hk] at q
      exact q
    | some z =>
      obtain ⟨es, ρ2⟩ := z
      rw [hk] at q
      simp only at q
      intro ws H2 hl2 r2
      have e1 := h1 _ _ _ hn
      have e2 := h2 _ _ _ hk
      refine ⟨hl.trans e1, hl2.trans e2, ?_⟩
      obtain ⟨F, fp, f2⟩ := r2
      obtain ⟨a2, f1⟩ := f2.tms hl2
      obtain ⟨a1, f0⟩ := f1.tms hl
      have all := pick_rps ((a1.app a2).app (hd F)) p
      have len : (pick p (vs ++ ws ++ dvs)).length = np := by
        rw [all.length, ← hp.1]
        have tot : (ds ++ es ++ dd).length = k1 + k2 + dd.length := by rw [List.length_append, List.length_append, e1, e2]
        refine pick_len p fun i hi => ?_
        rw [tot]
        exact hp.2 i hi
      refine ⟨_, _, rfl, len, f0.callIn all, fun i fr ce z => ?_, ?_⟩
      · rw [List.getElem?_map] at z
        cases y : (pick p (ds ++ es ++ dd))[i]? with
        | none =>
          rw [y] at z
          cases z
        | some d =>
          rw [y] at z
          cases z
      · cases hf : f ((pick p (ds ++ es ++ dd)).map .val) with
        | none =>
          rw [hf] at q
          exact q
        | some z =>
          obtain ⟨e, outs⟩ := z
          rw [hf] at q
          simp only at q
          intro v H' r'
          split at q
          · rename_i he
            exact q v H' (f0.callOut r' he)
          · exact q.elim
theorem j_call {x : Str} {pp : Pos} {f : Addr} {fd : FuncData} {ps ks : List Str} {m : MF} {dvs : List V} {dd : List PyData} {p : List Nat} {n nk : MA} {k : Nat} (F : FnG Y.P Y.w Y.K Y.mg Y.base k f fd ps m) (hk : PySem.W.keepIn Y.K (.ref f) = true) (hm : Y.mg x = some (.ref f)) (hb : BindG Y.K fd ps (e :: es).length ks dvs p) (hd : ∀ F, Rps Y.K F dvs dd)
    (ha : JA Y (e :: es) n) (hkw : JK Y kws nk) (h1 : ∀ ρ ds ρ', n ρ = some (ds, ρ') → ds.length = (e :: es).length) (h2 : ∀ ρ ds ρ', nk ρ = some (ds, ρ') → ds.length = ks.length) (hle : k ≤ Y.k) (hp : p.length = ps.length ∧ ∀ i ∈ p, i < (e :: es).length + ks.length + dd.length := by decide) (hg : ∀ j, Gl (Y.X j) x := by intro _; rfl)
    (hall : ∀ j, (backToKw pos (keywordEach kws (Y.X j).env)).all (·.1.isSome) = true := by intro _; rfl) (hks : ∀ j, (backToKw pos (keywordEach kws (Y.X j).env)).filterMap (·.1) = ks := by intro _; rfl) (hdb : (x == ("__debug__" : Str)) = false := by decide) (he : ∀ j, starEach (e :: es) (Y.X j).env = (false, eval e (Y.X j).env) :: starEach es (Y.X j).env := by intro _; rfl)
    (hpl : ∀ j, ((backTo pos (starEach (e :: es) (Y.X j).env)).any (·.1) || (backToKw pos (keywordEach kws (Y.X j).env)).any (·.1.isNone)) = false := by intro _; rfl) : JO Y (.Call (.Name x pp) (e :: es) kws pos) (mCall m p dd n nk) := by
  obtain ⟨t, pa, s1⟩ := ha
  obtain ⟨tk, pk, s2⟩ := hkw
  refine ⟨tCallG Y.K (e :: es).length ks.length ps.length dvs p m t tk, fun j => ?_, sem_call s1 s2 hd h1 h2 hp⟩
  have F' : FnG (Y.X j).prog (Y.X j).w (Y.X j).K (Y.X j).mg (Y.X j).base k f fd ps m := by
    rw [Y.hP j, Y.hw j, Y.hK j, Y.hmg j, Y.hbase j]
    exact F
  have hb' : BindG (Y.X j).K fd ps (e :: es).length ks dvs p := by
    rw [Y.hK j]
    exact hb
  rw [← Y.hK j]
  exact pe_callG F' ((Y.room j).mono hle) (Y.gd j) (hg j) (by rw [Y.hmg j]; exact hm) (by rw [Y.hK j]; exact hk) hb' (pa j) (pk j) (hall j) (hks j) hdb (he j) (hpl j)
theorem j_call0 {x : Str} {pp : Pos} {f : Addr} {fd : FuncData} {ps ks : List Str} {m : MF} {dvs : List V} {dd : List PyData} {p : List Nat} {nk : MA} {k : Nat} (F : FnG Y.P Y.w Y.K Y.mg Y.base k f fd ps m) (hk : PySem.W.keepIn Y.K (.ref f) = true) (hm : Y.mg x = some (.ref f)) (hb : BindG Y.K fd ps 0 ks dvs p) (hd : ∀ F, Rps Y.K F dvs dd)
    (hkw : JK Y kws nk) (h2 : ∀ ρ ds ρ', nk ρ = some (ds, ρ') → ds.length = ks.length) (hle : k ≤ Y.k) (hp : p.length = ps.length ∧ ∀ i ∈ p, i < 0 + ks.length + dd.length := by decide) (hg : ∀ j, Gl (Y.X j) x := by intro _; rfl)
    (hall : ∀ j, (backToKw pos (keywordEach kws (Y.X j).env)).all (·.1.isSome) = true := by intro _; rfl) (hks : ∀ j, (backToKw pos (keywordEach kws (Y.X j).env)).filterMap (·.1) = ks := by intro _; rfl) (hdb : (x == ("__debug__" : Str)) = false := by decide)
    (hpl : ∀ j, ((backTo pos (starEach [] (Y.X j).env)).any (·.1) || (backToKw pos (keywordEach kws (Y.X j).env)).any (·.1.isNone)) = false := by intro _; rfl) : JO Y (.Call (.Name x pp) [] kws pos) (mCall m p dd mNil nk) := by
  obtain ⟨tk, pk, s2⟩ := hkw
  refine ⟨tCallG Y.K 0 ks.length ps.length dvs p m tNil tk, fun j => ?_, sem_call (fun _ _ _ _ H _ r q => q [] H rfl r) s2 hd (fun ρ ds ρ' z => by cases z; rfl) h2 hp⟩
  have F' : FnG (Y.X j).prog (Y.X j).w (Y.X j).K (Y.X j).mg (Y.X j).base k f fd ps m := by
    rw [Y.hP j, Y.hw j, Y.hK j, Y.hmg j, Y.hbase j]
    exact F
  have hb' : BindG (Y.X j).K fd ps 0 ks dvs p := by
    rw [Y.hK j]
    exact hb
  rw [← Y.hK j]
  exact pe_callG0 F' ((Y.room j).mono hle) (Y.gd j) (hg j) (by rw [Y.hmg j]; exact hm) (by rw [Y.hK j]; exact hk) hb' (pk j) (hall j) (hks j) hdb (hpl j)
/-- f(x, ..): x's cell is lent -/
def mLend (i : Nat) (f : MF) (p : List Nat) (dd : List PyData) (n nk : MA) : MO := fun ρ => match ρ[i]? with
  | some (.own _ _) => match n ρ with
    | none => none
    | some (ds, ρ) => match nk ρ with
      | none => none
      | some (es, ρ) => match ρ[i]? with
        | some (.own fr ce) => match f (.own false ce :: (pick p (ds ++ es ++ dd)).map .val) with
          | some (e, .own false ce' :: _) => if resE e = true then some (e, ρ.set i (.own fr ce')) else none
          | _ => none
        | _ => none
  | _ => none
theorem l_nil : ∀ ρ ds ρ', mNil ρ = some (ds, ρ') → ds.length = 0 := fun ρ ds ρ' z => by
  cases z
  rfl
theorem l_cons {m : MV} {n : MA} {k : Nat} (h : ∀ ρ ds ρ', n ρ = some (ds, ρ') → ds.length = k) : ∀ ρ ds ρ', mCons m n ρ = some (ds, ρ') → ds.length = k + 1 := fun ρ ds ρ' z => by
  unfold mCons at z
  split at z
  · cases z
  · split at z
    · cases z
    · rename_i hn
      cases z
      exact congrArg Nat.succ (h _ _ _ hn)
end
end Fj

set_option Elab.async false
set_option linter.all false
set_option maxRecDepth 100000
set_option maxHeartbeats 4000000
set_option autoImplicit false
/-! Calls that are lent a cell of a slot. -/
namespace Fj
open PySem PySem.Spec PyProof.Rows L2

def up1 (p : List Nat) : List Nat := 0 :: p.map (· + 1)
theorem pick_up {α : Type} (v : α) (xs : List α) : ∀ p : List Nat, pick (p.map (· + 1)) (v :: xs) = pick p xs
  | [] => rfl
  | i :: p => by
    unfold pick
    rw [List.map_cons, List.filterMap_cons, List.filterMap_cons]
    have h : (v :: xs)[i + 1]? = xs[i]? := rfl
    rw [h]
    have ih := pick_up v xs p
    unfold pick at ih
    rw [ih]
theorem pick_up1 {α : Type} (v : α) (xs : List α) (p : List Nat) : pick (up1 p) (v :: xs) = v :: pick p xs := by
  unfold up1
  show pick (0 :: p.map (· + 1)) (v :: xs) = _
  unfold pick
  rw [List.filterMap_cons]
  show v :: pick (p.map (· + 1)) (v :: xs) = _
  rw [pick_up]
  rfl
section
variable {K : PySem.W.Frag} {c : Ct} {σ : L2.St} {ρ : En} {T : Tm} {H : Hp}
theorem sem_lend {f : MF} {i : Nat} {p : List Nat} {dvs : List V} {dd : List PyData} {n nk : MA} {t tk : TA} {k1 k2 np : Nat} (s1 : SemA K t n) (s2 : SemA K tk nk) (hd : ∀ F, Rps K F dvs dd) (h1 : ∀ ρ ds ρ', n ρ = some (ds, ρ') → ds.length = k1) (h2 : ∀ ρ ds ρ', nk ρ = some (ds, ρ') → ds.length = k2)
    (hp : p.length + 1 = np ∧ ∀ i ∈ p, i < k1 + k2 + dd.length) : SemO K (tCallG K (k1 + 1) k2 np dvs (up1 p) f (tCons (tVar i) t) tk) (mLend i f p dd n nk) := fun c σ ρ T H Q r q => by
  unfold mLend at q
  split at q
  case h_2 => exact q.elim
  rename_i fr0 ce0 he0
  obtain ⟨vr, hv⟩ := r.ownv he0
  refine ⟨vr, hv, ?_⟩
  refine s1 c σ ρ T H _ r ?_
  cases hn : n ρ with
  | none =>
    rw [hn] at q
    exact q
  | some z =>
    obtain ⟨ds, ρ1⟩ := z
    rw [hn] at q
    simp only at q
    intro vs H1 hl r1
    refine s2 c σ ρ1 _ H1 _ r1 ?_
    cases hk : nk ρ1 with
    | none =>
      rw [hk] at q
      exact q
    | some z =>
      obtain ⟨es, ρ2⟩ := z
      rw [hk] at q
      simp only at q
      intro ws H2 hl2 r2
      have e1 := h1 _ _ _ hn
      have e2 := h2 _ _ _ hk
      refine ⟨congrArg Nat.succ (hl.trans e1), hl2.trans e2, ?_⟩
      split at q
      case h_2 => exact q.elim
      rename_i fr ce he
      have r3 := r2.take hv he
      have r4 : Rel K c σ (ρ2.set i .lent) (Fj.tms ws es ++ (Fj.tms vs ds ++ (vr, .own fr ce) :: T)) H2 := by
        refine r3.perm ?_
        refine List.perm_middle.symm.trans ?_
        exact List.Perm.append_left _ List.perm_middle.symm
      obtain ⟨F, fp, f2⟩ := r4
      obtain ⟨a2, f1⟩ := f2.tms hl2
      obtain ⟨a1, f0⟩ := f1.tms hl
      have all := pick_rps ((a1.app a2).app (hd F)) p
      have pk : pick (up1 p) ((vr :: vs) ++ ws ++ dvs) = vr :: pick p (vs ++ ws ++ dvs) := pick_up1 vr (vs ++ ws ++ dvs) p
      have len : (pick p (vs ++ ws ++ dvs)).length + 1 = np := by
        rw [all.length, ← hp.1]
        have tot : (ds ++ es ++ dd).length = k1 + k2 + dd.length := by rw [List.length_append, List.length_append, e1, e2]
        refine congrArg Nat.succ (pick_len p fun j hj => ?_)
        rw [tot]
        exact hp.2 j hj
      obtain ⟨fc, ⟨fq, hc, hq, hfr, hfp⟩, rin⟩ := f0.lendIn all
      have nd := f0.nd
      rw [hfp] at nd
      have hown : ∀ a ∈ fc, c.W a ∨ c.H0 a = none := fun a ha => (f0.own a (by rw [hfp]; exact List.mem_append_left _ ha)).2
      rw [pk]
      refine ⟨_, _, rfl, len, rin, fun j fr' ce' z => ?_, ?_⟩
      · cases j with
        | zero => exact ⟨vr, rfl⟩
        | succ j =>
          have z : ((pick p (ds ++ es ++ dd)).map Ent.val)[j]? = some (.own fr' ce') := z
          rw [List.getElem?_map] at z
          cases y : (pick p (ds ++ es ++ dd))[j]? with
          | none =>
            rw [y] at z
            cases z
          | some d =>
            rw [y] at z
            cases z
      · cases hf : f (.own false ce :: (pick p (ds ++ es ++ dd)).map .val) with
        | none =>
          rw [hf] at q
          exact q
        | some z =>
          obtain ⟨e, outs⟩ := z
          rw [hf] at q
          cases outs with
          | nil => exact q.elim
          | cons o outs =>
            cases o with
            | own b ce' =>
              cases b with
              | true => exact q.elim
              | false =>
                simp only at q
                intro v H' r'
                split at q
                · rename_i hre
                  refine q v H' ?_
                  have r5 := RelF.lendOut hq hfr nd hown r' hre
                  exact r2.put_back he hv r5.swap
                · exact q.elim
            | no => exact q.elim
            | val d => exact q.elim
            | scr ns => exact q.elim
            | lent => exact q.elim
            | fzo _ _ _ => exact q.elim
end
theorem j_lend {Y : Fam} {es : List Expr} {kws : List Keyword} {pos vpos : Pos} (i : Nat) {y : Str} {x : Str} {pp : Pos} {f : Addr} {fd : FuncData} {ps ks : List Str} {m : MF} {dvs : List V} {dd : List PyData} {p : List Nat} {n nk : MA} {k : Nat} (F : FnG Y.P Y.w Y.K Y.mg Y.base k f fd ps m) (hk : PySem.W.keepIn Y.K (.ref f) = true) (hm : Y.mg x = some (.ref f)) (hb : BindG Y.K fd ps (es.length + 1) ks dvs (up1 p)) (hd : ∀ F, Rps Y.K F dvs dd)
    (ha : JA Y es n) (hkw : JK Y kws nk) (h1 : ∀ ρ ds ρ', n ρ = some (ds, ρ') → ds.length = es.length) (h2 : ∀ ρ ds ρ', nk ρ = some (ds, ρ') → ds.length = ks.length) (hle : k ≤ Y.k) (hp : p.length + 1 = ps.length ∧ ∀ i ∈ p, i < es.length + ks.length + dd.length := by decide) (hg : ∀ j, Gl (Y.X j) x := by intro _; rfl)
    (hN : ∀ j, (Y.X j).N[i]? = some y := by intro _; rfl) (hv : ∀ j, Vis (Y.X j).env.scope y := by first | exact fun _ => Or.inl rfl | exact fun _ => Or.inr (Or.inl rfl) | exact fun _ => Or.inr (Or.inr rfl)) (hyd : (y == ("__debug__" : Str)) = false := by decide) (hyc : (y == ("__classdict__" : Str)) = false := by decide)
    (hall : ∀ j, (backToKw pos (keywordEach kws (Y.X j).env)).all (·.1.isSome) = true := by intro _; rfl) (hks : ∀ j, (backToKw pos (keywordEach kws (Y.X j).env)).filterMap (·.1) = ks := by intro _; rfl) (hdb : (x == ("__debug__" : Str)) = false := by decide) (he : ∀ j, starEach (.Name y vpos :: es) (Y.X j).env = (false, eval (.Name y vpos) (Y.X j).env) :: starEach es (Y.X j).env := by intro _; rfl)
    (hpl : ∀ j, ((backTo pos (starEach (.Name y vpos :: es) (Y.X j).env)).any (·.1) || (backToKw pos (keywordEach kws (Y.X j).env)).any (·.1.isNone)) = false := by intro _; rfl) : JO Y (.Call (.Name x pp) (.Name y vpos :: es) kws pos) (mLend i m p dd n nk) := by
  obtain ⟨t, pa, s1⟩ := ha
  obtain ⟨tk, pk, s2⟩ := hkw
  refine ⟨tCallG Y.K (es.length + 1) ks.length ps.length dvs (up1 p) m (tCons (tVar i) t) tk, fun j => ?_, sem_lend s1 s2 hd h1 h2 hp⟩
  have F' : FnG (Y.X j).prog (Y.X j).w (Y.X j).K (Y.X j).mg (Y.X j).base k f fd ps m := by
    rw [Y.hP j, Y.hw j, Y.hK j, Y.hmg j, Y.hbase j]
    exact F
  have hb' : BindG (Y.X j).K fd ps (es.length + 1) ks dvs (up1 p) := by
    rw [Y.hK j]
    exact hb
  rw [← Y.hK j]
  exact pe_callG F' ((Y.room j).mono hle) (Y.gd j) (hg j) (by rw [Y.hmg j]; exact hm) (by rw [Y.hK j]; exact hk) hb' (pa_cons (pe_var (hN j) (hv j) hyd hyc) (pa j) (he j)) (pk j) (hall j) (hks j) hdb (he j) (hpl j)
end Fj

set_option Elab.async false
set_option linter.all false
set_option maxRecDepth 100000
set_option maxHeartbeats 4000000
set_option autoImplicit false
/-! The script handed on, and a law's end. -/
namespace Fj
open PySem PySem.Spec PyProof.Rows L2

section
variable {K : PySem.W.Frag} {c : Ct} {σ : L2.St} {ρ : En} {T : Tm} {H F : Hp} {fp : List Addr}
theorem sql_keep {H H' : Hp} {a : Addr} {xs : List V} (h : SqL K H a xs) (k : ∀ o, H a = some o → H' a = some o) : SqL K H' a xs := by
  rcases h with (h | ⟨o, h⟩) | h
  · exact .inl (.inl (k _ h))
  · exact .inl (.inr ⟨o, k _ h⟩)
  · exact .inr h
/-- f(script): the script is handed on -/
def mScr (i : Nat) (f : MF) : MO := fun ρ => match ρ[i]? with
  | some (.scr ns) => match f [.scr ns] with
    | some (e, _) => if resE e = true then some (e, ρ) else none
    | none => none
  | _ => none
theorem RelF.scrIn {a : Addr} {ns : List Int} (f : RelF K c σ ρ T H F fp) (h : SqL K c.H0 a (ns.map V.int)) (w : ¬ c.W a) : Rel K ⟨F, H, fun _ => False, [], c.gn⟩ [some (.ref a)] [.scr ns] [] H := by
  have sl : Slots K ⟨F, H, fun _ => False, [], c.gn⟩ F H [(some (.ref a), .scr ns)] ([] ++ []) := .cons (.scr (sql_keep h fun o z => f.keep a o z w) id) .nil
  exact ⟨F, [], fun _ _ z => z, f.fh, fun a z => .inl z, fun a o z _ => z, fun a z => z, sl, List.nodup_nil, fun a z => (List.not_mem_nil z).elim, rfl, fun i v z => by cases z⟩
theorem sem_scr {f : MF} {i : Nat} : SemO K (tCallG K 1 0 1 [] [0] f (tCons (tVar i) tNil) tNil) (mScr i f) := fun c σ ρ T H Q r q => by
  unfold mScr at q
  split at q
  case h_2 => exact q.elim
  rename_i ns he
  obtain ⟨a, hv, hs, hw⟩ := r.scrAt he
  refine ⟨_, hv, ⟨rfl, rfl, ?_⟩⟩
  obtain ⟨F, fp, rf⟩ := r
  refine ⟨_, _, rfl, rfl, rf.scrIn hs hw, fun j fr ce z => ?_, ?_⟩
  · cases j with
    | zero => cases z
    | succ j => cases z
  · cases hf : f [.scr ns] with
    | none =>
      rw [hf] at q
      exact q
    | some z =>
      obtain ⟨e, outs⟩ := z
      rw [hf] at q
      simp only at q
      intro v H' r'
      split at q
      · rename_i hre
        exact q v H' (rf.callOut r' hre)
      · exact q.elim
end
theorem j_scr {Y : Fam} {pos vpos : Pos} (i : Nat) {y : Str} {x : Str} {pp : Pos} {f : Addr} {fd : FuncData} {ps : List Str} {m : MF} {k : Nat} (F : FnG Y.P Y.w Y.K Y.mg Y.base k f fd ps m) (hk : PySem.W.keepIn Y.K (.ref f) = true) (hm : Y.mg x = some (.ref f)) (hb : BindG Y.K fd ps 1 [] [] [0])
    (hle : k ≤ Y.k) (hps : ps.length = 1 := by rfl) (hg : ∀ j, Gl (Y.X j) x := by intro _; rfl)
    (hN : ∀ j, (Y.X j).N[i]? = some y := by intro _; rfl) (hv : ∀ j, Vis (Y.X j).env.scope y := by first | exact fun _ => Or.inl rfl | exact fun _ => Or.inr (Or.inl rfl) | exact fun _ => Or.inr (Or.inr rfl)) (hyd : (y == ("__debug__" : Str)) = false := by decide) (hyc : (y == ("__classdict__" : Str)) = false := by decide)
    (hall : ∀ j, (backToKw pos (keywordEach [] (Y.X j).env)).all (·.1.isSome) = true := by intro _; rfl) (hks : ∀ j, (backToKw pos (keywordEach [] (Y.X j).env)).filterMap (·.1) = [] := by intro _; rfl) (hdb : (x == ("__debug__" : Str)) = false := by decide) (he : ∀ j, starEach [.Name y vpos] (Y.X j).env = (false, eval (.Name y vpos) (Y.X j).env) :: starEach [] (Y.X j).env := by intro _; rfl)
    (hpl : ∀ j, ((backTo pos (starEach [.Name y vpos] (Y.X j).env)).any (·.1) || (backToKw pos (keywordEach [] (Y.X j).env)).any (·.1.isNone)) = false := by intro _; rfl) : JO Y (.Call (.Name x pp) [.Name y vpos] [] pos) (mScr i m) := by
  refine ⟨tCallG Y.K 1 0 1 [] [0] m (tCons (tVar i) tNil) tNil, fun j => ?_, sem_scr⟩
  have F' : FnG (Y.X j).prog (Y.X j).w (Y.X j).K (Y.X j).mg (Y.X j).base k f fd ps m := by
    rw [Y.hP j, Y.hw j, Y.hK j, Y.hmg j, Y.hbase j]
    exact F
  have hb' : BindG (Y.X j).K fd ps 1 [] [] [0] := by
    rw [Y.hK j]
    exact hb
  rw [← Y.hK j]
  have hh := pe_callG (pp := pp) F' ((Y.room j).mono hle) (Y.gd j) (hg j) (by rw [Y.hmg j]; exact hm) (by rw [Y.hK j]; exact hk) hb' (pa_cons (pe_var (hN j) (hv j) hyd hyc) pa_nil (he j)) pk_nil (hall j) (hks j) hdb (he j) (hpl j)
  rw [hps] at hh
  exact hh

/-! ### the end -/
theorem law_callG {P : Program} {w : World} {K : PySem.W.Frag} {mg mb : Str → Option Value} {k : Nat} {fa a : Addr} {fd : FuncData} {x : Str} {m : MF} {s₁ : Shared} {vs : List Value} {ns : List Int}
    (KX : K.In s₁.heap) (hns : s₁.heap.Ns mainGlobals mg) (hb : s₁.heap.Ns builtinsNs mb) (hbb : ∀ x : Str, x ≠ "__name__" → mb x = bootBuiltins x) (hlim : s₁.heap.NoLimit) (hg : s₁.gens = #[])
    (ha : s₁.heap.get? a = some { cls := .type "list", data := .seq vs.toArray }) (hi : IntsAre vs ns) (hl : ns.length ≤ sizeLine) (hr : Room k callerA)
    (F : ∀ base : Heap, K.In base → base.Ns mainGlobals mg → FnG P w K mg base k fa fd [x] m) (hbind : ∀ (s : Shared) (u : Value), BindsTo s fd ⟨[u], []⟩ [(x, u)])
    (hm : ∃ outs, m [.scr ns] = some (.val (.bool true), outs)) :
    codeAny (model P w) callerA (.call (.ref fa) ⟨[.ref a], []⟩) (fun r s' => r = .ok (.ret (.bool true)) ∧ OldK s₁.heap s'.heap ∧ s'.os = s₁.os ∧ AllBare s'.gens) s₁ := by
  have rv := vals_ints hi
  have lenV := hi.length
  have core : ∀ H : Hp, (∀ b, H b = none ∨ ∃ o xs, H b = some (.frz o (.lst xs))) → SqL K H a (ns.map V.int) → HOk P w H s₁.heap → (∀ b, H b ≠ none → b = a) → (H a ≠ none → K.lookup a = none) →
      codeAny (model P w) callerA (.call (.ref fa) ⟨[.ref a], []⟩) (fun r s' => r = .ok (.ret (.bool true)) ∧ OldK s₁.heap s'.heap ∧ s'.os = s₁.os ∧ AllBare s'.gens) s₁ := by
    intro H hO hS hok hA hK
    have notA : ∀ {b : Addr}, b ≠ a → H b = none := fun {b} hb => Classical.byContradiction fun z => hb (hA b z)
    have onA : ∀ {b : Addr} {o : Obj}, s₁.heap.get? b = some o → b = a → o = { cls := .type "list", data := .seq vs.toArray } := fun {b o} e z => by
      subst z
      rw [ha] at e
      exact (Option.some.inj e).symm
    have dicts : ∀ {b : Addr} {o : Obj} {es : Array DictEntry} {ep : Nat}, s₁.heap.get? b = some o → o.data = .dict es ep → H b = none := fun {b o es ep} e d => by
      refine notA fun z => ?_
      rw [onA e z] at d
      cases d
    have nsK : ∀ {b : Addr} {mm : Str → Option Value}, s₁.heap.Ns b mm → (hidT s₁.heap H).Ns b mm := fun {b mm} ⟨o, es, ep, e, d, r⟩ => ⟨o, es, ep, hidT_get e (dicts e d), d, r⟩
    have hKb : K.In (hidT s₁.heap H) := fun b o e => hidT_get (KX b o e) (by
      refine Classical.byContradiction fun q => ?_
      have e' : b = a := hA b q
      subst e'
      rw [hK q] at e
      cases e)
    have hM : Mod K mg (hidT s₁.heap H) := ⟨hKb, nsK hns, ⟨mb, nsK hb, hbb⟩, let ⟨mc, h1, h2⟩ := hlim; ⟨mc, nsK h1, h2⟩⟩
    have e0 : Env0 P w K mg (hidT s₁.heap H) callerA [] s₁ H := ⟨rfl, hM, fun b o e => of_hidT e, Nat.le_of_eq (hidT_size _ _), trivial, fun b hb => (List.not_mem_nil hb).elim, hok, .of_eq hg⟩
    have sp : SpF K 1 m [.ref a] H (fun v _ => v = .bl true) := by
      obtain ⟨outs, hm⟩ := hm
      have sl : Slots K ⟨fun _ => none, H, fun _ => False, [], fun _ => none⟩ (fun _ => none) H [(some (.ref a), .scr ns)] ([] ++ []) := .cons (.scr hS id) .nil
      have rel : Rel K ⟨fun _ => none, H, fun _ => False, [], fun _ => none⟩ [some (.ref a)] [.scr ns] [] H := ⟨fun _ => none, [], fun _ _ z => z, (fun _ _ z => by cases z), fun _ z => absurd rfl z, fun _ _ z _ => z, fun _ z => z, sl, List.nodup_nil, fun _ z => (List.not_mem_nil z).elim, rfl, fun i v z => by cases z⟩
      refine ⟨_, [.scr ns], rfl, rfl, rel, fun j fr ce z => ?_, ?_⟩
      · cases j with
        | zero => cases z
        | succ j => cases z
      · rw [hm]
        intro v H' r
        obtain ⟨F', fp', r⟩ := r
        obtain ⟨fc, fq, _, h, _⟩ := r.pop
        cases h with
        | val r =>
          cases r with
          | bl b => rfl
    refine codeAny_mono ((F _ hKb (nsK hns)).go callerA [] s₁ H ⟨[.ref a], []⟩ [.ref a] [.ref a] _ hr rfl e0 (hbind s₁ (.ref a)) (.cons rfl .nil) sp) fun r s' h => ?_
    cases r with
    | error e => exact h.elim
    | ok fl =>
      cases fl with
      | next => exact False.elim h
      | brk => exact False.elim h
      | cont => exact False.elim h
      | ret u =>
        obtain ⟨v, H', os, bare, un, hok', r', q⟩ := h
        have q' : v = .bl true := q
        subst q'
        obtain rfl : u = Value.bool true := r'
        refine ⟨rfl, OldK.of_keep fun b o e => ?_, os, bare⟩
        rcases hO b with z | ⟨ob, xs, z⟩
        · exact un.keep b o e z (fun y => List.not_mem_nil y) (List.not_mem_nil)
        · obtain ⟨e1, _⟩ := hok b _ z
          obtain ⟨e2, _⟩ := hok' b _ (un.frzs b ob _ z)
          rw [e] at e1
          cases e1
          exact e2
  cases hk : K.lookup a with
  | some o =>
    have e := KX a o hk
    rw [ha] at e
    cases e
    refine core (fun _ => none) (fun _ => .inl rfl) (.inr ⟨_, vs.toArray, _, hk, rfl, rfl, rfl, by rw [List.size_toArray, lenV]; exact hl, by simpa using rv⟩) (fun b u z => by cases z) (fun b z => absurd rfl z) fun z => absurd rfl z
  | none =>
    have fst : ∀ {b : Addr} {u : HO}, (if b = a then some (HO.frz { cls := .type "list", data := .seq vs.toArray } (.lst (ns.map V.int))) else none) = some u → b = a ∧ u = .frz { cls := .type "list", data := .seq vs.toArray } (.lst (ns.map V.int)) := fun {b u} z => by
      split at z
      · rename_i hb
        exact ⟨hb, (Option.some.inj z).symm⟩
      · cases z
    refine core (fun b => if b = a then some (.frz { cls := .type "list", data := .seq vs.toArray } (.lst (ns.map V.int))) else none) (fun b => ?_) (.inl (.inr ⟨{ cls := .type "list", data := .seq vs.toArray }, if_pos rfl⟩)) (fun b u z => ?_) (fun b z => ?_) fun _ => hk
    · by_cases hb : b = a
      · exact .inr ⟨_, _, if_pos hb⟩
      · exact .inl (if_neg hb)
    · obtain ⟨rfl, rfl⟩ := fst z
      exact ⟨ha, by rw [List.length_map]; exact hl, vs, _, rv, ha⟩
    · exact Classical.byContradiction fun hb => z (if_neg hb)
theorem walk_G {l : PySem.W.OpenLaw} {n k : Nat} {q : Program} {loose : List Str} {XP : (Str → Option Value) → Heap → Prop} {YP : World → Heap → Prop} {d : DefRec} {x : Str}
    (hn : l.most = some n) (hn2 : n ≤ sizeLine) (hdf : d.params.defaults = []) (hr : Room k callerA)
    (F : ∀ (w : World) (mg : Str → Option Value) (fa : Addr) (h : Heap), YP w h → h.Ns mainGlobals mg → mg d.name = some (.ref fa) →
      ∃ (K : PySem.W.Frag) (fd : FuncData) (m : MF), K.In h ∧ (∀ (s : Shared) (u : Value), BindsTo s fd ⟨[u], []⟩ [(x, u)]) ∧
        (∀ ns : List Int, ns.length ≤ n → ∃ outs, m [.scr ns] = some (.val (.bool true), outs)) ∧
        ∀ base : Heap, K.In base → base.Ns mainGlobals mg → FnG l.prog w K mg base k fa fd [x] m) :
    PySem.W.WalkO q loose XP YP l.row.toRowW d [] (fun f vs => PySem.call f vs) := by
  refine Att.attach_call hn hdf fun w s₀ s₁ mg mb fa o pm cd doc a vs ns G Y ho hd hcd hmg hobj hints hlen hg => ?_
  obtain ⟨K, fd, m, KX, hb, hm, hF⟩ := F w mg fa _ Y G.T.g hmg
  exact law_callG KX G.T.g G.T.b G.T.builtins G.T.nolimit hg hobj hints (Nat.le_trans hlen hn2) hr (hF) hb (hm ns hlen)
end Fj

set_option Elab.async false
set_option linter.all false
set_option maxRecDepth 100000
set_option maxHeartbeats 4000000
set_option autoImplicit false
/-! Own lists read as data for the time of an expression. -/
namespace Fj
open PySem PySem.Spec PyProof.Rows L2

def keyD : Key → PyData
  | .inl i => .int i
  | .inr x => .str x
mutual
/-- a tree as data -/
def Tr.dat : Tr → Option PyData
  | .leaf d => some d
  | .node .lst ts => (datAll ts).map .list
  | .node (.dct ks) ts => (datAll ts).map fun ds => .dict ((ks.map keyD).zip ds)
  | .node (.obj _ _) _ => none
  | .gone _ => none
def datAll : List Tr → Option (List PyData)
  | [] => some []
  | t :: ts => match t.dat with
    | some d => (datAll ts).map fun ds => d :: ds
    | none => none
end
/-- an object that is no tuple -/
def notT : HO → Prop
  | .tup _ => False
  | .frz _ _ => False
  | _ => True
theorem notT_tup {o : HO} (h : notT o) (xs : List V) : o ≠ .tup xs := fun z => by
  rw [z] at h
  exact h
theorem notT_frz {o u : HO} {w : Obj} (h : notT o) : o ≠ .frz w u := fun z => by
  rw [z] at h
  exact h
section
variable {K : PySem.W.Frag} {G : Nat → Option V} {F F' H : Hp}
theorem NodeAt.notT {a : Addr} {n : Nd} {vs : List V} {xs : List Addr} (h : NodeAt K H a n vs xs) : ∀ b ∈ xs, ∃ o, H b = some o ∧ Fj.notT o := by
  intro b hb
  cases h with
  | lst h =>
    rw [List.mem_singleton.mp hb]
    exact ⟨_, h, trivial⟩
  | dct h l nd =>
    rw [List.mem_singleton.mp hb]
    exact ⟨_, h, trivial⟩
  | obj h l g =>
    rcases List.mem_cons.mp hb with e | e
    · rw [e]
      exact ⟨_, h, trivial⟩
    · rw [List.mem_singleton.mp e]
      exact ⟨_, g, trivial⟩
theorem rpk_zip {ks : List Key} : ∀ {vs : List V} {ds : List PyData}, ks.length = vs.length → Rps K F vs ds → Rpk K F (ks.zip vs) ((ks.map keyD).zip ds) := by
  induction ks with
  | nil => exact fun _ _ => .nil
  | cons k ks ih =>
    intro vs ds l r
    cases r with
    | nil => cases l
    | cons r t =>
      cases k with
      | inl i => exact .int r (ih (Nat.succ.inj l) t)
      | inr x => exact .str r (ih (Nat.succ.inj l) t)
mutual
theorem TrAt.notT : ∀ {t : Tr} {v : V} {fc : List Addr}, TrAt K G F H v t fc → ∀ a ∈ fc, ∃ o, H a = some o ∧ Fj.notT o
  | .leaf _, _, _, h, a, ha => by
    cases h
    cases ha
  | .gone _, _, _, h, a, ha => by
    cases h
    cases ha
  | .node _ _, _, _, h, a, ha => by
    cases h with
    | node hn t => exact (List.mem_append.mp ha).elim (hn.notT a) (TrsAt.notT t a)
theorem TrsAt.notT : ∀ {ts : List Tr} {vs : List V} {fc : List Addr}, TrsAt K G F H vs ts fc → ∀ a ∈ fc, ∃ o, H a = some o ∧ Fj.notT o
  | [], _, _, h, a, ha => by
    cases h
    cases ha
  | _ :: _, _, _, h, a, ha => by
    cases h with
    | cons h r => exact (List.mem_append.mp ha).elim (TrAt.notT h a) (TrsAt.notT r a)
end
mutual
theorem TrAt.dat (e : Same F F') : ∀ {t : Tr} {v : V} {fc : List Addr} {d : PyData}, TrAt K G F H v t fc → t.dat = some d → (∀ a ∈ fc, F' a = H a) → Rp K F' v d
  | .leaf _, _, _, _, h, q, k => by
    cases h with
    | leaf r =>
      rw [Tr.dat] at q
      cases q
      exact r.mono e
  | .gone _, _, _, _, h, q, k => by
    rw [Tr.dat] at q
    cases q
  | .node .lst ts, _, _, d, h, q, k => by
    cases h with
    | node hn t =>
      rw [Tr.dat] at q
      cases hq : datAll ts with
      | none =>
        rw [hq] at q
        cases q
      | some ds =>
        rw [hq] at q
        cases q
        have z2 := TrsAt.dat e t hq fun a ha => k a (List.mem_append_right _ ha)
        cases hn with
        | lst hh => exact .lst ((k _ (by simp)).trans hh) z2
  | .node (.dct ks) ts, _, _, d, h, q, k => by
    cases h with
    | node hn t =>
      rw [Tr.dat] at q
      cases hq : datAll ts with
      | none =>
        rw [hq] at q
        cases q
      | some ds =>
        rw [hq] at q
        cases q
        have z2 := TrsAt.dat e t hq fun a ha => k a (List.mem_append_right _ ha)
        cases hn with
        | dct hh l nd => exact .dct ((k _ (by simp)).trans hh) (rpk_zip l z2)
  | .node (.obj _ _) ts, _, _, d, h, q, k => by
    rw [Tr.dat] at q
    cases q
theorem TrsAt.dat (e : Same F F') : ∀ {ts : List Tr} {vs : List V} {fc : List Addr} {ds : List PyData}, TrsAt K G F H vs ts fc → datAll ts = some ds → (∀ a ∈ fc, F' a = H a) → Rps K F' vs ds
  | [], _, _, _, h, q, k => by
    cases h
    rw [datAll] at q
    cases q
    exact .nil
  | t :: ts, _, _, ds, h, q, k => by
    cases h with
    | cons h r =>
      rw [datAll] at q
      cases ht : t.dat with
      | none =>
        rw [ht] at q
        cases q
      | some d =>
        rw [ht] at q
        simp only at q
        cases hts : datAll ts with
        | none =>
          rw [hts] at q
          cases q
        | some es =>
          rw [hts] at q
          cases q
          exact .cons (TrAt.dat e h ht fun a ha => k a (List.mem_append_left _ ha)) (TrsAt.dat e r hts fun a ha => k a (List.mem_append_right _ ha))
end
/-- what is seen of the fields of an object -/
theorem TrsAt.view : ∀ {ts : List Tr} {vs : List V} {fc : List Addr}, TrsAt K G F H vs ts fc → ∃ B : List Addr, (∀ a ∈ B, a ∈ fc) ∧ ∀ F', Same F F' → (∀ a ∈ B, F' a = H a) → Rpo K F' vs (ts.map Tr.dat)
  | [], _, _, h => by
    cases h
    exact ⟨[], fun a ha => (List.not_mem_nil ha).elim, fun _ _ _ => .nil⟩
  | t :: ts, _, _, h => by
    cases h with
    | @cons v _ vs _ f g h r =>
      obtain ⟨B, b1, b2⟩ := TrsAt.view r
      cases ht : t.dat with
      | none =>
        refine ⟨B, fun a ha => List.mem_append_right _ (b1 a ha), fun F' e k => ?_⟩
        refine .cons (fun d z => ?_) (b2 F' e k)
        rw [ht] at z
        cases z
      | some d =>
        refine ⟨f ++ B, fun a ha => (List.mem_append.mp ha).elim (fun q => List.mem_append_left _ q) fun q => List.mem_append_right _ (b1 a q), fun F' e k => ?_⟩
        exact .cons (fun d' z => TrAt.dat e h z fun a ha => k a (List.mem_append_left _ ha)) (b2 F' e fun a ha => k a (List.mem_append_right _ ha))
end
/-- what is seen of a tree -/
def borT (t : Tr) : Ent := match t.dat with
  | some d => .val d
  | none => match t with
    | .node (.obj cn ns) ts => .fzo cn ns (ts.map Tr.dat)
    | _ => .no
theorem TrAt.bor {K : PySem.W.Frag} {G : Nat → Option V} {F H : Hp} {t : Tr} {v : V} {fc : List Addr} (h : TrAt K G F H v t fc) : ∃ B : List Addr, (∀ a ∈ B, a ∈ fc) ∧ ∀ (F' : Hp) (c' : Ct), Same F F' → (∀ a ∈ B, F' a = H a) → SlotOk K c' F' H (some v, borT t) [] := by
  cases hd : t.dat with
  | some d =>
    refine ⟨fc, fun _ z => z, fun F' c' e k => ?_⟩
    have q : borT t = .val d := by
      unfold borT
      rw [hd]
    rw [q]
    exact .val (TrAt.dat e h hd k)
  | none =>
    cases h with
    | leaf r =>
      rw [Tr.dat] at hd
      cases hd
    | gone h =>
      refine ⟨[], fun a ha => (List.not_mem_nil ha).elim, fun F' c' e k => ?_⟩
      unfold borT
      rw [hd]
      exact .no _
    | @node a n vs ts xs f hn t =>
      cases n with
      | lst =>
        refine ⟨[], fun a ha => (List.not_mem_nil ha).elim, fun F' c' e k => ?_⟩
        unfold borT
        rw [hd]
        exact .no _
      | dct ks =>
        refine ⟨[], fun a ha => (List.not_mem_nil ha).elim, fun F' c' e k => ?_⟩
        unfold borT
        rw [hd]
        exact .no _
      | obj cn ns =>
        obtain ⟨B, b1, b2⟩ := TrsAt.view t
        cases hn with
        | @obj dx _ _ _ hh l g =>
          refine ⟨a :: B, fun b hb => ?_, fun F' c' e k => ?_⟩
          · rcases List.mem_cons.mp hb with z | z
            · rw [z]
              exact List.mem_append_left _ (List.mem_cons_self ..)
            · exact List.mem_append_right _ (b1 b z)
          · unfold borT
            rw [hd]
            exact .fzo ((k a (List.mem_cons_self ..)).trans hh) l (b2 F' e fun b hb => k b (List.mem_cons_of_mem _ hb))
/-- what an expression may see of a slot -/
def borS : Ent → Ent
  | .val d => .val d
  | .own _ (.lst ds) => .val (.list ds)
  | .own _ (.deck s l m t) => .own false (.deck s l m t)
  | .own _ (.tr t) => borT t
  | .fzo cn ns os => .fzo cn ns os
  | _ => .no
/-- what stays behind -/
def keepS : Ent → Ent
  | .own _ (.deck _ _ _ _) => .no
  | e => e
/-- what comes back -/
def merS : Ent → Ent → Ent
  | .own fr (.deck _ _ _ _), .own _ (.deck s l m t) => .own fr (.deck s l m t)
  | .own _ (.deck _ _ _ _), _ => .no
  | e, _ => e
def merE : En → En → En
  | a :: as, b :: bs => merS a b :: merE as bs
  | [], _ => []
  | a :: as, [] => keepS a :: merE as []
def dkFit (fr : Bool) : Ent → Bool
  | .own f (.deck _ _ _ _) => f == fr
  | _ => true
def dkAll (fr : Bool) (ρ : En) : Bool := ρ.all (dkFit fr)
def isDk : Ent → Bool
  | .own _ (.deck _ _ _ _) => true
  | _ => false
/-- decks are still there -/
def dkKept : En → En → Bool
  | [], _ => true
  | a :: as, [] => !isDk a && dkKept as []
  | a :: as, b :: bs => (!isDk a || isDk b) && dkKept as bs
def nlE : Ent → Bool
  | .val d => nlD d
  | .own true (.lst ds) => nlAll ds
  | _ => false
def borOk (ρ : En) : Bool := dkAll true ρ || dkAll false ρ
def mBor (m : MO) : MO := fun ρ => if borOk ρ = true then (match m (ρ.map borS) with
  | some (e, ρ2) => if nlE e = true ∧ dkKept ρ ρ2 = true then some (e, merE ρ ρ2) else none
  | none => none) else none
def mBorT (m : MT) : MT := fun ρ => if borOk ρ = true then (match m (ρ.map borS) with
  | some (b, ρ2) => if dkKept ρ ρ2 = true then some (b, merE ρ ρ2) else none
  | none => none) else none
section
variable {K : PySem.W.Frag} {c c' : Ct} {σ : L2.St} {ρ ρ2 : En} {T : Tm} {H H2 F F2 F3 : Hp} {fp fq : List Addr} {fr : Bool}
/-- the slots in two: decks, and all else with the lists that are read -/
theorem slots_bor (hd : dkAll fr ρ = true) (h : Slots K c F H (σ.zip ρ) fp) : ∃ D N B : List Addr, fp.Perm (D ++ N) ∧ (∀ a ∈ B, a ∈ N ∧ ∃ o, H a = some o ∧ notT o) ∧ Slots K c F H (σ.zip (ρ.map keepS)) N ∧ (fr = true → ∀ a ∈ D, c.H0 a = none) ∧
    ∀ (F' : Hp) (c' : Ct), Same F F' → (∀ a ∈ B, F' a = H a) → Slots K c' F' H (σ.zip (ρ.map borS)) D := by
  induction ρ generalizing σ fp with
  | nil =>
    cases σ with
    | nil =>
      cases h
      exact ⟨[], [], [], .refl _, fun _ z => (List.not_mem_nil z).elim, .nil, fun _ a ha => (List.not_mem_nil ha).elim, fun _ _ _ _ => .nil⟩
    | cons x σ =>
      cases h
      exact ⟨[], [], [], .refl _, fun _ z => (List.not_mem_nil z).elim, .nil, fun _ a ha => (List.not_mem_nil ha).elim, fun _ _ _ _ => .nil⟩
  | cons e ρ ih =>
    cases σ with
    | nil =>
      cases h
      exact ⟨[], [], [], .refl _, fun _ z => (List.not_mem_nil z).elim, .nil, fun _ a ha => (List.not_mem_nil ha).elim, fun _ _ _ _ => .nil⟩
    | cons x σ =>
      have h0 : Slots K c F H ((x, e) :: σ.zip ρ) fp := h
      clear h
      have hd2 : dkFit fr e = true ∧ dkAll fr ρ = true := Bool.and_eq_true_iff.mp hd
      cases h0 with
      | @cons _ fc fr0 _ h t =>
        obtain ⟨D, N, B, pm, sub, s1, hfr, s2⟩ := ih hd2.2 t
        have plain : (hk : keepS e = e) → (hb : borS e = .no) → ∃ D N B : List Addr, (fc ++ fr0).Perm (D ++ N) ∧ (∀ a ∈ B, a ∈ N ∧ ∃ o, H a = some o ∧ notT o) ∧ Slots K c F H ((x :: σ).zip ((e :: ρ).map keepS)) N ∧ (fr = true → ∀ a ∈ D, c.H0 a = none) ∧
            ∀ (F' : Hp) (c' : Ct), Same F F' → (∀ a ∈ B, F' a = H a) → Slots K c' F' H ((x :: σ).zip ((e :: ρ).map borS)) D := fun hk hb => by
          refine ⟨D, fc ++ N, B, ?_, fun a ha => ⟨List.mem_append_right _ (sub a ha).1, (sub a ha).2⟩, ?_, hfr, fun F' c' e1 e2 => ?_⟩
          · exact (List.Perm.append_left fc pm).trans (by rw [← List.append_assoc, ← List.append_assoc]; exact List.Perm.append_right _ List.perm_append_comm)
          · show Slots K c F H ((x, keepS e) :: σ.zip (ρ.map keepS)) (fc ++ N)
            rw [hk]
            exact .cons h s1
          · show Slots K c' F' H ((x, borS e) :: σ.zip (ρ.map borS)) D
            rw [hb]
            exact Slots.cons (fc := []) (.no _) (s2 F' c' e1 e2)
        cases h with
        | no x => exact plain rfl rfl
        | lent x => exact plain rfl rfl
        | scr h w => exact plain rfl rfl
        | fzo h l r =>
          refine ⟨D, N, B, pm, sub, Slots.cons (fc := []) (.fzo h l r) s1, hfr, fun F' c' e1 e2 => Slots.cons (fc := []) (.fzo (e1 _ _ h) l (r.mono e1)) (s2 F' c' e1 e2)⟩
        | val r =>
          refine ⟨D, N, B, pm, sub, Slots.cons (fc := []) (.val r) s1, hfr, fun F' c' e1 e2 => Slots.cons (fc := []) (.val (r.mono e1)) (s2 F' c' e1 e2)⟩
        | @own v fr1 ce _ r hh =>
          cases r with
          | dct h hk r => exact plain rfl rfl
          | @lst a vs ds h r =>
            refine ⟨D, [a] ++ N, a :: B, ?_, fun b hb => ?_, .cons (.own (.lst h r) hh) s1, hfr, fun F' c' e1 e2 => Slots.cons (fc := []) (.val (.lst ?_ (r.mono e1))) (s2 F' c' e1 fun b hb => e2 b (List.mem_cons_of_mem _ hb))⟩
            · exact (List.Perm.append_left [a] pm).trans (by rw [← List.append_assoc, ← List.append_assoc]; exact List.Perm.append_right _ List.perm_append_comm)
            · rcases List.mem_cons.mp hb with z | z
              · rw [z]
                exact ⟨List.mem_append_left _ (List.mem_singleton.mpr rfl), _, h, trivial⟩
              · exact ⟨List.mem_append_right _ (sub b z).1, (sub b z).2⟩
            · rw [e2 a (List.mem_cons_self ..)]
              exact h
          | @tr _ tt fc h =>
            obtain ⟨B2, b1, b2⟩ := h.bor
            refine ⟨D, fc ++ N, B2 ++ B, ?_, fun b hb => ?_, .cons (.own (.tr h) hh) s1, hfr, fun F' c' e1 e2 => Slots.cons (fc := []) (b2 F' c' e1 fun a ha => e2 a (List.mem_append_left _ ha)) (s2 F' c' e1 fun b hb => e2 b (List.mem_append_right _ hb))⟩
            · exact (List.Perm.append_left fc pm).trans (by rw [← List.append_assoc, ← List.append_assoc]; exact List.Perm.append_right _ List.perm_append_comm)
            · rcases List.mem_append.mp hb with z | z
              · exact ⟨List.mem_append_left _ (b1 b z), TrAt.notT h b (b1 b z)⟩
              · exact ⟨List.mem_append_right _ (sub b z).1, (sub b z).2⟩
          | @deck a b s left m t' h g =>
            have hf : fr1 = fr := eq_of_beq hd2.1
            refine ⟨[a, b] ++ D, N, B, (List.Perm.append_left _ pm).trans (by rw [List.append_assoc]), sub, Slots.cons (fc := []) (.no _) s1, fun z y hy => ?_, fun F' c' e1 e2 => .cons (.own (.deck h g) fun z => by cases z) (s2 F' c' e1 e2)⟩
            rcases List.mem_append.mp hy with q | q
            · exact hh (hf.trans z) y q
            · exact hfr z y q
theorem slots_mer (h1 : Slots K c F3 H2 (σ.zip (ρ.map keepS)) fp) (h2 : Slots K c' F2 H2 (σ.zip ρ2) fq) (hfr : ∀ a ∈ fq, fr = true → c.H0 a = none) (hd : dkAll fr ρ = true) : ∃ f g : List Addr, f.Sublist fq ∧ g.Perm (f ++ fp) ∧ Slots K c F3 H2 (σ.zip (merE ρ ρ2)) g := by
  induction ρ generalizing σ fp fq ρ2 with
  | nil =>
    have e : merE [] ρ2 = [] := by cases ρ2 <;> rfl
    rw [e]
    cases σ with
    | nil =>
      cases h1
      exact ⟨[], [], List.nil_sublist _, .refl _, .nil⟩
    | cons x σ =>
      cases h1
      exact ⟨[], [], List.nil_sublist _, .refl _, .nil⟩
  | cons e ρ ih =>
    cases σ with
    | nil =>
      cases h1
      exact ⟨[], [], List.nil_sublist _, .refl _, .nil⟩
    | cons x σ =>
      have h0 : Slots K c F3 H2 ((x, keepS e) :: σ.zip (ρ.map keepS)) fp := h1
      clear h1
      have hd2 : dkFit fr e = true ∧ dkAll fr ρ = true := Bool.and_eq_true_iff.mp hd
      cases h0 with
      | @cons _ fc fr0 _ h t =>
        have rest : ∃ fa fb : List Addr, ∃ o : Option Ent, fq = fa ++ fb ∧ (∀ e2, o = some e2 → SlotOk K c' F2 H2 (x, e2) fa) ∧ (match o with
          | some e2 => ρ2 = e2 :: ρ2.tail
          | none => ρ2 = []) ∧ Slots K c' F2 H2 (σ.zip ρ2.tail) fb := by
          cases ρ2 with
          | nil =>
            cases h2
            refine ⟨[], [], none, rfl, (fun _ z => by cases z), rfl, ?_⟩
            cases σ <;> exact .nil
          | cons e2 ρ2 =>
            have h0 : Slots K c' F2 H2 ((x, e2) :: σ.zip ρ2) fq := h2
            clear h2
            cases h0 with
            | @cons _ fa fb _ h' t' => exact ⟨fa, fb, some e2, rfl, (fun _ z => by cases z; exact h'), rfl, t'⟩
        obtain ⟨fa, fb, o, rfl, hx, hρ, ht⟩ := rest
        obtain ⟨f, g, sub, pm, sl⟩ := ih t ht (fun a ha => hfr a (List.mem_append_right _ ha)) hd2.2
        have keepit : ∀ (e' : Ent), keepS e = e' → ∃ f g : List Addr, f.Sublist (fa ++ fb) ∧ g.Perm (f ++ (fc ++ fr0)) ∧ Slots K c F3 H2 ((x, e') :: σ.zip (merE ρ ρ2.tail)) g := fun e' he => by
          subst he
          refine ⟨f, fc ++ g, sub.trans (List.sublist_append_right _ _), ?_, .cons h sl⟩
          exact (List.Perm.append_left fc pm).trans (by rw [← List.append_assoc, ← List.append_assoc]; exact List.Perm.append_right _ List.perm_append_comm)
        cases o with
        | none =>
          have hρ : ρ2 = [] := hρ
          subst hρ
          exact keepit _ rfl
        | some e2 =>
          have hρ : ρ2 = e2 :: ρ2.tail := hρ
          rw [hρ]
          show ∃ f g : List Addr, f.Sublist (fa ++ fb) ∧ g.Perm (f ++ (fc ++ fr0)) ∧ Slots K c F3 H2 ((x, merS e e2) :: σ.zip (merE ρ ρ2.tail)) g
          by_cases hdk : ∃ f1 s l m t f2 s' l' m' t', e = .own f1 (.deck s l m t) ∧ e2 = .own f2 (.deck s' l' m' t')
          · obtain ⟨f1, s, l, m, t, f2, s', l', m', t', rfl, rfl⟩ := hdk
            have hf : f1 = fr := eq_of_beq hd2.1
            have h' := hx _ rfl
            cases h with
            | no =>
              cases h' with
              | own r hh =>
                cases r with
                | deck u w =>
                  refine ⟨_ ++ f, _ ++ g, List.Sublist.append_left sub _, ?_, .cons (.own (.deck u w) fun z a ha => hfr a (List.mem_append_left _ ha) (hf ▸ z)) sl⟩
                  rw [List.append_assoc]
                  exact List.Perm.append_left _ pm
          · refine keepit _ ?_
            cases e with
            | own f1 ce =>
              cases ce with
              | deck s l m t =>
                cases e2 with
                | own f2 ce2 =>
                  cases ce2 with
                  | deck s' l' m' t' => exact absurd ⟨_, _, _, _, _, _, _, _, _, _, rfl, rfl⟩ hdk
                  | _ => rfl
                | _ => rfl
              | _ => rfl
            | _ => rfl
theorem merE_len : ∀ (ρ ρ2 : En), (merE ρ ρ2).length = ρ.length
  | [], ρ2 => by cases ρ2 <;> rfl
  | a :: as, [] => congrArg Nat.succ (merE_len as [])
  | a :: as, b :: bs => congrArg Nat.succ (merE_len as bs)
theorem pinE_mer : ∀ (ρ ρ2 : En) (i : Nat) (e : Ent), dkKept ρ ρ2 = true → ρ[i]? = some e → pinE e = true → ∃ e', (merE ρ ρ2)[i]? = some e' ∧ pinE e' = true
  | [], _, i, e, _, h, _ => by simp at h
  | a :: as, [], 0, e, k, h, p => by
    have h : a = e := Option.some.inj h
    subst h
    refine ⟨keepS a, rfl, ?_⟩
    have k1 := (Bool.and_eq_true_iff.mp k).1
    cases a with
    | own f ce =>
      cases ce with
      | deck s l m t => cases k1
      | _ => exact p
    | _ => exact p
  | a :: as, b :: bs, 0, e, k, h, p => by
    have h : a = e := Option.some.inj h
    subst h
    refine ⟨merS a b, rfl, ?_⟩
    have k1 := (Bool.and_eq_true_iff.mp k).1
    cases a with
    | own f ce =>
      cases ce with
      | deck s l m t =>
        cases b with
        | own f2 ce2 =>
          cases ce2 with
          | deck s' l' m' t' =>
            cases f with
            | false => rfl
            | true => cases p
          | _ => cases k1
        | _ => cases k1
      | _ => exact p
    | _ => exact p
  | a :: as, [], i + 1, e, k, h, p => pinE_mer as [] i e (Bool.and_eq_true_iff.mp k).2 h p
  | a :: as, b :: bs, i + 1, e, k, h, p => pinE_mer as bs i e (Bool.and_eq_true_iff.mp k).2 h p
theorem slots_nl {S : Tm} (hS : ∀ p ∈ S, nlE p.2 = true) (hq : ∀ a xs, SqT K F2 a xs → SqT K F3 a xs) (hz : ∀ a, c'.H0 a = none → c.H0 a = none) (h : Slots K c' F2 H2 (tmp S) fq) : Slots K c F3 H2 (tmp S) fq := by
  induction S generalizing fq with
  | nil =>
    cases h
    exact .nil
  | cons p S ih =>
    obtain ⟨v, e⟩ := p
    have h0 : Slots K c' F2 H2 ((some v, e) :: tmp S) fq := h
    clear h
    cases h0 with
    | cons h t =>
      refine Slots.cons ?_ (ih (fun p hp => hS p (List.mem_cons_of_mem _ hp)) t)
      have n : nlE e = true := hS (v, e) (List.mem_cons_self ..)
      cases h with
      | no x => cases n
      | lent x => cases n
      | scr h w => cases n
      | fzo h l r => cases n
      | val r => exact .val (r.nl hq n)
      | @own _ fr1 ce _ r hh =>
        cases fr1 with
        | false => cases n
        | true =>
          cases r with
          | lst h r => exact .own (.lst h (r.nl hq n)) fun z a ha => hz a (hh z a ha)
          | dct h hk r => cases n
          | deck h g => cases n
          | tr h => cases n
theorem Rel.bor (r : Rel K c σ ρ T H) (ok : borOk ρ = true) : ∃ c' : Ct, Rel K c' σ (ρ.map borS) [] H ∧ ∀ (S : Tm) (ρ2 : En) (H2 : Hp), dkKept ρ ρ2 = true → (∀ p ∈ S, nlE p.2 = true) → Rel K c' σ ρ2 S H2 → Rel K c σ (merE ρ ρ2) (S ++ T) H2 := by
  have ok : ∃ fr, dkAll fr ρ = true := (Bool.or_eq_true_iff.mp ok).elim (fun z => ⟨_, z⟩) fun z => ⟨_, z⟩
  obtain ⟨fr, hd⟩ := ok
  obtain ⟨F, fp, r⟩ := r
  obtain ⟨fT, fS, rfl, sT, sS⟩ := Slots.split r.sl
  obtain ⟨D, N, B, pm, sub, sN, hfr, sb⟩ := slots_bor hd sS
  have nd : (fT ++ (D ++ N)).Nodup := (List.Perm.append_left fT pm).nodup_iff.mp r.nd
  have inS : ∀ a, a ∈ D ∨ a ∈ N → a ∈ fT ++ fS := fun a ha => List.mem_append_right _ (pm.mem_iff.mpr (List.mem_append.mpr ha))
  have DN : ∀ a ∈ D, a ∉ N := fun a ha hb => (List.nodup_append.mp (List.nodup_append.mp nd).2.1).2.2 a ha a hb rfl
  have TD : ∀ a ∈ fT, a ∉ D := fun a ha hb => (List.nodup_append.mp nd).2.2 a ha a (List.mem_append_left _ hb) rfl
  have FB : ∀ a ∈ B, F a = none := fun a ha => (r.own a (inS a (.inr (sub a ha).1))).1
  have back : ∀ a, H a = none → c.H0 a = none := fun a ha => Classical.byContradiction fun z => r.trk a z ha
  let F' : Hp := fun b => if b ∈ B then H b else F b
  have F'B : ∀ b ∈ B, F' b = H b := fun b hb => if_pos hb
  have F'n : ∀ b, b ∉ B → F' b = F b := fun b hb => if_neg hb
  have sF : Same F F' := fun b u z => (F'n b fun hb => by rw [FB b hb] at z; cases z).trans z
  have inner : Rel K ⟨F', H, fun a => a ∈ D, [], c.gn⟩ σ (ρ.map borS) [] H := by
    refine ⟨F', D, fun _ _ z => z, fun b u z => ?_, fun _ z => .inl z, fun _ _ z _ => z, fun _ z => z, sb F' _ sF F'B, (List.nodup_append.mp (List.nodup_append.mp nd).2.1).1, fun a ha => ⟨?_, .inl ha⟩, by rw [List.length_map]; exact r.len, fun i v z => by cases z⟩
    · by_cases hb : b ∈ B
      · rw [F'B b hb] at z
        exact z
      · rw [F'n b hb] at z
        exact r.fh b u z
    · rw [F'n a fun z => DN a ha (sub a z).1]
      exact (r.own a (inS a (.inl ha))).1
  refine ⟨_, inner, fun S ρ2 H2 hk hS r2 => ?_⟩
  obtain ⟨F2, fq0, r2⟩ := r2
  obtain ⟨fX, fq, rfl, sX, sq⟩ := Slots.split r2.sl
  let F3 : Hp := fun b => if b ∈ B then none else F2 b
  have F3B : ∀ b ∈ B, F3 b = none := fun b hb => if_pos hb
  have F3n : ∀ b, b ∉ B → F3 b = F2 b := fun b hb => if_neg hb
  have sF3 : Same F F3 := fun b u z => by
    have hb : b ∉ B := fun hb => by rw [FB b hb] at z; cases z
    rw [F3n b hb]
    exact r2.f0 b u ((F'n b hb).trans z)
  have kp : ∀ a o, H a = some o → a ∉ D → H2 a = some o := fun a o z w => r2.keep a o z w
  have kq : ∀ a, H a ≠ none → a ∉ D → H2 a = H a := fun a z w => by
    cases y : H a with
    | none => exact absurd y z
    | some o => exact kp a o y w
  have ownq : ∀ a ∈ fX ++ fq, F3 a = none ∧ (c.W a ∨ c.H0 a = none) ∧ (a ∈ D ∨ H a = none) := fun a ha => by
    obtain ⟨z1, z2⟩ := r2.own a ha
    have z2 : a ∈ D ∨ H a = none := z2
    refine ⟨?_, z2.elim (fun z => (r.own a (inS a (.inl z))).2) fun z => .inr (back a z), z2⟩
    by_cases hb : a ∈ B
    · exact F3B a hb
    · rw [F3n a hb]
      exact z1
  have ownp : ∀ a, a ∈ fT ∨ a ∈ N → F3 a = none ∧ (c.W a ∨ c.H0 a = none) ∧ a ∉ D ∧ H a ≠ none := fun a ha => by
    have m : a ∈ fT ++ fS := ha.elim (fun z => List.mem_append_left _ z) fun z => inS a (.inr z)
    have hh : H a ≠ none := r.sl.there a m
    refine ⟨?_, (r.own a m).2, ha.elim (TD a) (fun z y => DN a y z), hh⟩
    by_cases hb : a ∈ B
    · exact F3B a hb
    · rw [F3n a hb]
      cases z : F2 a with
      | none => rfl
      | some o =>
        rcases r2.new a (by rw [z]; exact fun z => nomatch z) with y | y
        · have y : F' a ≠ none := y
          rw [F'n a hb] at y
          exact absurd (r.own a m).1 y
        · exact absurd y hh
  have sN2 : Slots K c F3 H2 (σ.zip (ρ.map keepS)) N := sN.stay sF3 fun a ha => kq a (ownp a (.inr ha)).2.2.2 (ownp a (.inr ha)).2.2.1
  have sT2 : Slots K c F3 H2 (tmp T) fT := sT.stay sF3 fun a ha => kq a (ownp a (.inl ha)).2.2.2 (ownp a (.inl ha)).2.2.1
  obtain ⟨f, g, sf, pg, sG⟩ := slots_mer (fr := fr) (c := c) sN2 sq (fun a ha z => (ownq a (List.mem_append_right _ ha)).2.2.elim (hfr z a) (back a)) hd
  have sX2 : Slots K c F3 H2 (tmp S) fX := slots_nl hS (fun a xs h => by
    by_cases hb : a ∈ B
    · obtain ⟨o1, hv, hT⟩ := (sub a hb).2
      have z := r2.f0 a _ ((F'B a hb).trans hv)
      rcases h with (h | ⟨o, h⟩) | h
      · rw [z] at h
        exact absurd (Option.some.inj h) (notT_tup hT _)
      · rw [z] at h
        exact absurd (Option.some.inj h) (notT_frz hT)
      · exact .inr h
    · rcases h with (h | ⟨o, h⟩) | h
      · exact .inl (.inl ((F3n a hb).trans h))
      · exact .inl (.inr ⟨o, (F3n a hb).trans h⟩)
      · exact .inr h) back sX
  have pmf : (fX ++ (fT ++ g)).Perm ((fX ++ f) ++ (fT ++ N)) := by
    rw [List.append_assoc]
    refine List.Perm.append_left fX ?_
    refine (List.Perm.append_left fT pg).trans ?_
    rw [← List.append_assoc, ← List.append_assoc]
    exact List.Perm.append_right _ List.perm_append_comm
  have memq : ∀ a ∈ fX ++ f, a ∈ fX ++ fq := fun a ha => (List.mem_append.mp ha).elim (fun z => List.mem_append_left _ z) fun z => List.mem_append_right _ (sf.mem z)
  refine ⟨F3, fX ++ (fT ++ g), r.f0.trans sF3, fun b u z => ?_, fun a z => ?_, fun a o z w => ?_, fun a z => r2.trk a (r.trk a z), ?_, pmf.nodup_iff.mpr (List.nodup_append.mpr ⟨r2.nd.sublist (List.Sublist.append_left sf _), ?_, fun a ha b hb z => ?_⟩), fun a ha => ?_, by rw [merE_len]; exact r.len, fun i w z => ?_⟩
  · by_cases hb : b ∈ B
    · rw [F3B b hb] at z
      cases z
    · rw [F3n b hb] at z
      exact r2.fh b u z
  · by_cases hb : a ∈ B
    · exact absurd (F3B a hb) z
    · rw [F3n a hb] at z
      rcases r2.new a z with y | y
      · have y : F' a ≠ none := y
        rw [F'n a hb] at y
        exact r.new a y
      · exact .inr (back a y)
  · refine kp a o (r.keep a o z w) fun y => ?_
    rcases (r.own a (inS a (.inl y))).2 with q | q
    · exact w q
    · rw [q] at z
      cases z
  · have e : tmp (S ++ T) ++ σ.zip (merE ρ ρ2) = tmp S ++ (tmp T ++ σ.zip (merE ρ ρ2)) := by
      show (S ++ T).map _ ++ _ = _
      rw [List.map_append, List.append_assoc]
      rfl
    rw [e]
    exact sX2.app (sT2.app sG)
  · exact nd.sublist (List.Sublist.append_left (List.sublist_append_right _ _) _)
  · subst z
    have q := (ownq a (memq a ha)).2.2
    obtain ⟨_, _, q1, q2⟩ := ownp a (List.mem_append.mp hb)
    exact q.elim q1 q2
  · rcases List.mem_append.mp (pmf.mem_iff.mp ha) with z | z
    · exact ⟨(ownq a (memq a z)).1, (ownq a (memq a z)).2.1⟩
    · exact ⟨(ownp a (List.mem_append.mp z)).1, (ownp a (List.mem_append.mp z)).2.1⟩
  · obtain ⟨z1, e0, z2, z3⟩ := r.pin i w z
    exact ⟨z1, pinE_mer ρ ρ2 i e0 hk z2 z3⟩
theorem SemO.bor {t : TE} {m : MO} (s : SemO K t m) : SemO K t (mBor m) := fun c σ ρ T H Q r q => by
  unfold mBor at q
  split at q
  · rename_i ok
    obtain ⟨c', r1, bk⟩ := r.bor ok
    refine s c' σ _ [] H Q r1 ?_
    cases hm : m (ρ.map borS) with
    | none =>
      rw [hm] at q
      exact q
    | some z =>
      obtain ⟨e, ρ2⟩ := z
      rw [hm] at q
      simp only at q
      intro v H2 r2
      split at q
      · rename_i hh
        exact q v H2 (bk [(v, e)] ρ2 H2 hh.2 (fun p hp => by rw [List.mem_singleton.mp hp]; exact hh.1) r2)
      · exact q.elim
  · exact q.elim
theorem SemT.bor {t : TT} {m : MT} (s : SemT K t m) : SemT K t (mBorT m) := fun c σ ρ T H Q r q => by
  unfold mBorT at q
  split at q
  · rename_i ok
    obtain ⟨c', r1, bk⟩ := r.bor ok
    refine s c' σ _ [] H Q r1 ?_
    cases hm : m (ρ.map borS) with
    | none =>
      rw [hm] at q
      exact q
    | some z =>
      obtain ⟨e, ρ2⟩ := z
      rw [hm] at q
      simp only at q
      intro H2 r2
      split at q
      · rename_i hh
        exact q H2 (bk [] ρ2 H2 hh (fun p hp => (List.not_mem_nil hp).elim) r2)
      · exact q.elim
  · exact q.elim
end
theorem j_bor {Y : Fam} {e : Expr} {m : MO} (h : JO Y e m) : JO Y e (mBor m) := let ⟨t, p, s⟩ := h; ⟨t, p, s.bor⟩
theorem j_borV {Y : Fam} {e : Expr} {m : MV} (h : JV Y e m) : JV Y e (mFz (mBor (mVal m))) := j_fz (j_bor (j_val h))
theorem t_bor {Y : Fam} {e : Expr} {m : MT} (h : JT Y e m) : JT Y e (mBorT m) := let ⟨t, p, s⟩ := h; ⟨t, p, s.bor⟩
end Fj

set_option Elab.async false
set_option linter.all false
set_option maxRecDepth 100000
set_option maxHeartbeats 4000000
set_option autoImplicit false
/-! The deck of a law: made, read, written. -/
namespace Fj
open PySem PySem.Spec PyProof.Rows L2

section
variable {K : PySem.W.Frag} {c : Ct} {σ : L2.St} {ρ : En} {T : Tm} {H F : Hp} {fp : List Addr}
abbrev dkV (s : Nat) (b : Addr) (m t : V) : List (Key × V) := [(.inr (dkK s).1, .ref b), (.inr (dkK s).2.1, m), (.inr (dkK s).2.2, t)]
theorem dk_ne3 : ("cells" : Str) ≠ "mixed" ∧ ("cells" : Str) ≠ "draws" ∧ ("mixed" : Str) ≠ "draws" := by decide
theorem dk_ne (s : Nat) : (dkK s).1 ≠ (dkK s).2.1 ∧ (dkK s).1 ≠ (dkK s).2.2 ∧ (dkK s).2.1 ≠ (dkK s).2.2 := by
  match s with
  | 0 => decide
  | 1 => decide
  | 2 => decide
  | n + 3 => exact dk_ne3
theorem dk_left (s : Nat) (b : Addr) (m t : V) : valV (dkV s b m t) (.inr (dkK s).1) = some (.ref b) := valV_pos rfl
theorem dk_mixed (s : Nat) (b : Addr) (m t : V) : valV (dkV s b m t) (.inr (dkK s).2.1) = some m := by
  obtain ⟨h1, h2, h3⟩ := dk_ne s
  exact (valV_neg fun z => h1 (Sum.inr.inj z)).trans (valV_pos rfl)
theorem dk_turn (s : Nat) (b : Addr) (m t : V) : valV (dkV s b m t) (.inr (dkK s).2.2) = some t := by
  obtain ⟨h1, h2, h3⟩ := dk_ne s
  exact (valV_neg fun z => h2 (Sum.inr.inj z)).trans ((valV_neg fun z => h3 (Sum.inr.inj z)).trans (valV_pos rfl))
theorem dk_putM (s : Nat) (b : Addr) (m t v : V) : putK (dkV s b m t) (.inr (dkK s).2.1) v = dkV s b v t := by
  obtain ⟨h1, h2, h3⟩ := dk_ne s
  have e1 : ¬ (Sum.inr (dkK s).1 : Key) = .inr (dkK s).2.1 := fun z => h1 (Sum.inr.inj z)
  have e2 : ¬ (Sum.inr (dkK s).2.2 : Key) = .inr (dkK s).2.1 := fun z => h3 (Sum.inr.inj z).symm
  unfold putK
  rw [valV_any, dk_mixed, Option.isSome_some, if_pos rfl]
  simp only [List.map_cons, List.map_nil, if_neg e1, if_neg e2, if_true]
theorem dk_putT (s : Nat) (b : Addr) (m t v : V) : putK (dkV s b m t) (.inr (dkK s).2.2) v = dkV s b m v := by
  obtain ⟨h1, h2, h3⟩ := dk_ne s
  have e1 : ¬ (Sum.inr (dkK s).1 : Key) = .inr (dkK s).2.2 := fun z => h2 (Sum.inr.inj z)
  have e2 : ¬ (Sum.inr (dkK s).2.1 : Key) = .inr (dkK s).2.2 := fun z => h3 (Sum.inr.inj z)
  unfold putK
  rw [valV_any, dk_turn, Option.isSome_some, if_pos rfl]
  simp only [List.map_cons, List.map_nil, if_neg e1, if_neg e2, if_true]
theorem dk_merge (s : Nat) (b : Addr) (m t : V) : mergeK [] (dkV s b m t) = dkV s b m t := by
  obtain ⟨h1, h2, h3⟩ := dk_ne s
  have e1 : ¬ (Sum.inr (dkK s).1 : Key) = .inr (dkK s).2.1 := fun z => h1 (Sum.inr.inj z)
  have e2 : ¬ (Sum.inr (dkK s).1 : Key) = .inr (dkK s).2.2 := fun z => h2 (Sum.inr.inj z)
  have e3 : ¬ (Sum.inr (dkK s).2.1 : Key) = .inr (dkK s).2.2 := fun z => h3 (Sum.inr.inj z)
  unfold mergeK dkV
  simp only [List.foldl_cons, List.foldl_nil]
  rw [putK_new (.ref b) rfl]
  rw [putK_new m (valV_neg e1)]
  exact putK_new t ((valV_neg e2).trans (valV_neg e3))
/-- a slot's deck -/
theorem Rel.dkAt {i : Nat} {fr : Bool} {s : Nat} {l : List Int} {m t : Int} (r : Rel K c σ ρ T H) (he : ρ[i]? = some (.own fr (.deck s l m t))) : ∃ a b, σ[i]? = some (some (.ref a)) ∧ H a = some (.dK (dkV s b (.int m) (.int t))) ∧ H b = some (.lst (l.map V.int)) ∧ a ≠ b ∧
    (∀ m' t' : Int, Rel K c σ (ρ.set i (.own fr (.deck s l m' t'))) T (upd H a (.dK (dkV s b (.int m') (.int t'))))) ∧ ∀ l' : List Int, Rel K c σ (ρ.set i (.own fr (.deck s l' m t))) T (upd H b (.lst (l'.map V.int))) := by
  obtain ⟨v, hv⟩ := r.ownv he
  have r1 := r.take hv he
  obtain ⟨F, fp, f⟩ := r1
  obtain ⟨fc, fq, hc, _, hfr, efp, up⟩ := f.opn
  have nd := f.nd
  rw [efp] at nd
  have ndc := (List.nodup_append.mp nd).1
  cases hc with
  | @deck a b _ _ _ _ h g =>
    have hab : a ≠ b := fun z => by
      rw [z] at ndc
      exact (List.nodup_cons.mp ndc).1 (List.mem_singleton.mpr rfl)
    refine ⟨a, b, hv, h, g, hab, fun m' t' => ?_, fun l' => ?_⟩
    · have q := up a (.dK (dkV s b (.int m') (.int t'))) (.deck s l m' t') (List.mem_cons_self ..) (.deck upd_same (by rw [upd_ne (fun z => hab z.symm)]; exact g))
      exact r.put_back he hv q
    · have q := up b (.lst (l'.map V.int)) (.deck s l' m t) (List.mem_cons_of_mem _ (List.mem_singleton.mpr rfl)) (.deck (by rw [upd_ne hab]; exact h) upd_same)
      exact r.put_back he hv q
end
def mDkM (s0 i : Nat) : MV := fun ρ => match ρ[i]? with
  | some (.own _ (.deck s _ m _)) => if s = s0 then some (.int m, ρ) else none
  | _ => none
def mDkT (s0 i : Nat) : MV := fun ρ => match ρ[i]? with
  | some (.own _ (.deck s _ _ t)) => if s = s0 then some (.int t, ρ) else none
  | _ => none
def mDkL (s0 i : Nat) : MT := fun ρ => match ρ[i]? with
  | some (.own _ (.deck s l _ _)) => if s = s0 then some (!l.isEmpty, ρ) else none
  | _ => none
def mDkPop (s0 i : Nat) : MV := fun ρ => match ρ[i]? with
  | some (.own fr (.deck s l m t)) => if s = s0 then (match l.getLast? with
    | some x => some (.int x, ρ.set i (.own fr (.deck s l.dropLast m t)))
    | none => none) else none
  | _ => none
def valS : Ent → Ent
  | .val d => .val d
  | _ => .no
def mDkApp (s0 i : Nat) (m : MV) : MO := fun ρ => match ρ[i]? with
  | some (.own fr (.deck s l mx t)) => if s = s0 ∧ l.length < 100000 then (match m (ρ.map valS) with
    | some (.int x, _) => some (.val .none, ρ.set i (.own fr (.deck s (l ++ [x]) mx t)))
    | _ => none) else none
  | _ => none
def mDkSetM (s0 i : Nat) (m : MV) : MS := fun ρ => match m ρ with
  | some (.int x, ρ) => (match ρ[i]? with
    | some (.own fr (.deck s l _ t)) => if s = s0 then some (.nx (ρ.set i (.own fr (.deck s l x t)))) else none
    | _ => none)
  | _ => none
def mDkSetT (s0 i : Nat) (m : MV) : MS := fun ρ => match m ρ with
  | some (.int x, ρ) => (match ρ[i]? with
    | some (.own fr (.deck s l mx _)) => if s = s0 then some (.nx (ρ.set i (.own fr (.deck s l mx x)))) else none
    | _ => none)
  | _ => none
def mDkNew (s : Nat) (a : MO) (b c : MV) : MO := fun ρ => match a ρ with
  | some (.own true (.lst ds), ρ) => (match intsD ds with
    | some l => (match b ρ with
      | some (.int m, ρ) => (match c ρ with
        | some (.int t, ρ) => some (.own true (.deck s l m t), ρ)
        | _ => none)
      | _ => none)
    | none => none)
  | _ => none
theorem canLay_ints : ∀ ns : List Int, PyData.canLayAll0 (ns.map PyData.int) = true
  | [] => by simp [PyData.canLayAll0]
  | n :: ns => by
    rw [List.map_cons]
    unfold PyData.canLayAll0
    rw [canLay_ints ns]
    simp [PyData.canLay0]
theorem depth_ints : ∀ ns : List Int, PyData.depthAll (ns.map PyData.int) = 0
  | [] => by simp [PyData.depthAll]
  | n :: ns => by
    rw [List.map_cons]
    unfold PyData.depthAll
    rw [depth_ints ns]
    simp [PyData.depth]
theorem shaped_ints (ns : List Int) : SeqAt.shaped (.list (ns.map .int)) = true := by
  unfold SeqAt.shaped
  rw [show PyData.canLay0 (.list (ns.map .int)) = true from by unfold PyData.canLay0; exact canLay_ints ns]
  rw [show PyData.depth (.list (ns.map .int)) = 1 from by unfold PyData.depth; rw [depth_ints]]
  rfl
theorem eqv_nil (ns : List Int) : PyData.eqv (.list (ns.map .int)) (.list []) = ns.isEmpty := by
  cases ns <;> simp [PyData.eqv, PyData.eqvAll]
section
variable {K : PySem.W.Frag} {c : Ct} {σ : L2.St} {ρ : En} {T : Tm} {H F : Hp} {fp : List Addr}
theorem dp_ints {H : Hp} : ∀ {ns : List Int}, DpAll K H (ns.map V.int) (ns.map PyData.int)
  | [] => .nil
  | n :: ns => .cons (.int n) dp_ints
theorem rps_ints {F : Hp} : ∀ {ns : List Int}, Rps K F (ns.map V.int) (ns.map PyData.int)
  | [] => .nil
  | n :: ns => .cons (.int n) rps_ints
/-- a look with what is plain alone: nothing changes -/
theorem slots_vs (h : Slots K c F H (σ.zip ρ) fp) (c' : Ct) : Slots K c' F H (σ.zip (ρ.map valS)) [] := by
  induction ρ generalizing σ fp with
  | nil =>
    cases σ <;> exact .nil
  | cons e ρ ih =>
    cases σ with
    | nil => exact .nil
    | cons x σ =>
      have h0 : Slots K c F H ((x, e) :: σ.zip ρ) fp := h
      clear h
      cases h0 with
      | cons h t =>
        cases h with
        | val r => exact Slots.cons (fc := []) (.val r) (ih t)
        | no x => exact Slots.cons (fc := []) (.no _) (ih t)
        | lent x => exact Slots.cons (fc := []) (.no _) (ih t)
        | fzo h l r => exact Slots.cons (fc := []) (.no _) (ih t)
        | scr h w => exact Slots.cons (fc := []) (.no _) (ih t)
        | own r hh => exact Slots.cons (fc := []) (.no _) (ih t)
theorem RelF.look (f : RelF K c σ ρ T H F fp) : Rel K ⟨F, H, fun _ => False, [], c.gn⟩ σ (ρ.map valS) [] H := by
  obtain ⟨f1, f2, _, _, s2⟩ := Slots.split f.sl
  exact ⟨F, [], fun _ _ z => z, f.fh, fun a z => .inl z, fun a o z _ => z, fun a z => z, slots_vs s2 _, List.nodup_nil, fun a z => (List.not_mem_nil z).elim, by rw [List.length_map]; exact f.len, fun i v z => by cases z⟩
/-- a deck is closed -/
theorem RelF.dkClose {p b : Addr} {s : Nat} {ns : List Int} {m t : Int} (f : RelF K c σ ρ ((.ref p, .own true (.dct [])) :: (.ref b, .own true (.lst (ns.map .int))) :: T) H F fp) : H p = some (.dK []) ∧ Rel K c σ ρ ((.ref p, .own true (.deck s ns m t)) :: T) (upd H p (.dK (dkV s b (.int m) (.int t)))) := by
  obtain ⟨fc, fq, e1, h1, f1⟩ := f.pop
  obtain ⟨fd, fr, e2, h2, f2⟩ := f1.pop
  subst e1 e2
  cases h1 with
  | own r hh =>
    cases r with
    | @dct _ vs _ h hk rs =>
      have hv : vs = [] := List.map_eq_nil_iff.mp hk
      subst hv
      cases h2 with
      | own r2 hh2 =>
        cases r2 with
        | @lst _ ws _ g rg =>
          refine ⟨h, ?_⟩
          have nd := f.nd
          have nd2 : (p :: b :: fr).Nodup := nd
          have hpb : b ≠ p := fun z => (List.nodup_cons.mp nd2).1 (by rw [← z]; exact List.mem_cons_self ..)
          have hpr : ∀ a ∈ fr, a ≠ p := fun a ha z => (List.nodup_cons.mp nd2).1 (List.mem_cons_of_mem _ (z ▸ ha))
          have hws : ws = ns.map V.int := rg.nums
          have own := f.own
          refine ⟨F, p :: b :: fr, f2.f0, fun a u z => ?_, f2.new, fun a u z w => ?_, fun a z => ?_, Slots.cons (fc := [p, b]) (.own (.deck upd_same (by rw [upd_ne hpb, ← hws]; exact g)) fun z a ha => ?_) (f2.sl.stay (fun _ _ z => z) fun a ha => upd_ne (hpr a ha)), nd2, own, f2.len, f2.pin⟩
          · rw [upd_ne fun y => by rw [y, (own p (List.mem_cons_self ..)).1] at z; cases z]
            exact f2.fh a u z
          · have q := hh rfl p (List.mem_singleton.mpr rfl)
            rw [upd_ne fun y => by rw [y, q] at z; cases z]
            exact f2.keep a u z w
          · by_cases hb : a = p
            · rw [hb, upd_same]
              exact fun z => nomatch z
            · rw [upd_ne hb]
              exact f2.trk a z
          · rcases List.mem_cons.mp ha with y | y
            · exact hh rfl a (List.mem_singleton.mpr y)
            · exact hh2 rfl a y
end
section
variable {Y : Fam} {e : Expr} {pos p1 p2 apos cpos : Pos} {x nm : Str} {j1 : Nat}
theorem j_dkM (s0 i : Nat) (hn : nm = (dkK s0).2.1 := by rfl) (hN : ∀ j, (Y.X j).N[i]? = some x := by intro _; rfl) (hv : ∀ j, Vis (Y.X j).env.scope x := by first | exact fun _ => Or.inl rfl | exact fun _ => Or.inr (Or.inl rfl) | exact fun _ => Or.inr (Or.inr rfl)) (hd : (x == ("__debug__" : Str)) = false := by decide) (hcd : (x == ("__classdict__" : Str)) = false := by decide)
    (hs : NoSl (.Constant (.str nm) j1 p2) := by intro _ _; rfl) : JV Y (.Subscript (.Name x p1) (.Constant (.str nm) j1 p2) pos) (mDkM s0 i) := by
  refine ⟨tDGet (tVar i) (tC (.str nm)), fun j => pe_dget (Nat.lt_of_le_of_lt (Nat.add_le_add_left (by decide) _) (Y.room j).units) (pe_var (hN j) (hv j) hd hcd) pe_str hs, fun c σ ρ T H Q r q => ?_⟩
  unfold mDkM at q
  split at q
  · rename_i fr s l m t he
    split at q
    · rename_i hs0
      subst hs0
      obtain ⟨a, b, h1, h2, h3, _⟩ := r.dkAt he
      refine ⟨_, h1, a, .int m, rfl, ?_, q _ H (r.pushI m)⟩
      rw [hn]
      have g := DGet.k (k := .inr (dkK s).2.1) h2
      rw [dk_mixed] at g
      exact g
    · exact q.elim
  · exact q.elim
theorem j_dkT (s0 i : Nat) (hn : nm = (dkK s0).2.2 := by rfl) (hN : ∀ j, (Y.X j).N[i]? = some x := by intro _; rfl) (hv : ∀ j, Vis (Y.X j).env.scope x := by first | exact fun _ => Or.inl rfl | exact fun _ => Or.inr (Or.inl rfl) | exact fun _ => Or.inr (Or.inr rfl)) (hd : (x == ("__debug__" : Str)) = false := by decide) (hcd : (x == ("__classdict__" : Str)) = false := by decide)
    (hs : NoSl (.Constant (.str nm) j1 p2) := by intro _ _; rfl) : JV Y (.Subscript (.Name x p1) (.Constant (.str nm) j1 p2) pos) (mDkT s0 i) := by
  refine ⟨tDGet (tVar i) (tC (.str nm)), fun j => pe_dget (Nat.lt_of_le_of_lt (Nat.add_le_add_left (by decide) _) (Y.room j).units) (pe_var (hN j) (hv j) hd hcd) pe_str hs, fun c σ ρ T H Q r q => ?_⟩
  unfold mDkT at q
  split at q
  · rename_i fr s l m t he
    split at q
    · rename_i hs0
      subst hs0
      obtain ⟨a, b, h1, h2, h3, _⟩ := r.dkAt he
      refine ⟨_, h1, a, .int t, rfl, ?_, q _ H (r.pushI t)⟩
      rw [hn]
      have g := DGet.k (k := .inr (dkK s).2.2) h2
      rw [dk_turn] at g
      exact g
    · exact q.elim
  · exact q.elim
theorem t_dkL (s0 i : Nat) {p3 p4 : Pos} (hn : nm = (dkK s0).1 := by rfl) (hN : ∀ j, (Y.X j).N[i]? = some x := by intro _; rfl) (hv : ∀ j, Vis (Y.X j).env.scope x := by first | exact fun _ => Or.inl rfl | exact fun _ => Or.inr (Or.inl rfl) | exact fun _ => Or.inr (Or.inr rfl)) (hd : (x == ("__debug__" : Str)) = false := by decide) (hcd : (x == ("__classdict__" : Str)) = false := by decide)
    (hs : NoSl (.Constant (.str nm) j1 p2) := by intro _ _; rfl) (hm : behindInMarks .NotEq (.List [] p3) = false := by first | exact nomark _ | rfl) : JT Y (.Compare (.Subscript (.Name x p1) (.Constant (.str nm) j1 p2) pos) [.NotEq] [.List [] p3] p4) (mDkL s0 i) := by
  refine ⟨tTest (tOp (rNeD Y.K) (tDGet (tVar i) (tC (.str nm))) (tLst tNil)), fun j => by
    rw [← Y.hK j]
    exact pt_cmpR (op_neD (Y.room j).units) (pe_dget (Nat.lt_of_le_of_lt (Nat.add_le_add_left (by decide) _) (Y.room j).units) (pe_var (hN j) (hv j) hd hcd) pe_str hs) (pe_lst pa_nil) hm, fun c σ ρ T H Q r q => ?_⟩
  unfold mDkL at q
  split at q
  · rename_i fr s l m t he
    split at q
    · rename_i hs0
      subst hs0
      obtain ⟨a, b, h1, h2, h3, _⟩ := r.dkAt he
      refine ⟨_, h1, a, .ref b, rfl, ?_, Nat.zero_le _, fun p hp => ⟨.list (l.map .int), .list [], .lst (.inl (.inl ?_)) dp_ints, .lst (.inl (.inl upd_same)) .nil, shaped_ints l, by decide, !l.isEmpty, ?_, q _ (r.fresh hp _)⟩⟩
      · rw [hn]
        have g := DGet.k (k := .inr (dkK s).1) h2
        rw [dk_left] at g
        exact g
      · rw [upd_ne (ne_of_none h3 hp)]
        exact h3
      · rw [eqv_nil]
    · exact q.elim
  · exact q.elim
theorem j_dkPop (s0 i : Nat) (hn : nm = (dkK s0).1 := by rfl) (hN : ∀ j, (Y.X j).N[i]? = some x := by intro _; rfl) (hv : ∀ j, Vis (Y.X j).env.scope x := by first | exact fun _ => Or.inl rfl | exact fun _ => Or.inr (Or.inl rfl) | exact fun _ => Or.inr (Or.inr rfl)) (hd : (x == ("__debug__" : Str)) = false := by decide) (hcd : (x == ("__classdict__" : Str)) = false := by decide)
    (hs : NoSl (.Constant (.str nm) j1 p2) := by intro _ _; rfl) (hbase : ∀ j, attributeBase (.Subscript (.Name x p1) (.Constant (.str nm) j1 p2) pos) "pop" (Y.X j).env (eval (.Subscript (.Name x p1) (.Constant (.str nm) j1 p2) pos) (Y.X j).env) = eval (.Subscript (.Name x p1) (.Constant (.str nm) j1 p2) pos) (Y.X j).env := by intro _; rfl)
    (hline : (apos.endLine == cpos.line) = true := by rfl) : JV Y (.Call (.Attribute (.Subscript (.Name x p1) (.Constant (.str nm) j1 p2) pos) "pop" apos) [] [] cpos) (mDkPop s0 i) := by
  refine ⟨tBM0 Y.K "list" rPop (tDGet (tVar i) (tC (.str nm))), fun j => by
    rw [← Y.hK j]
    exact pe_bm0 PySem.F.plainAttrs_list PySem.F.slot_list_pop PySem.F.type_list_pop mt_pop (pe_dget (Nat.lt_of_le_of_lt (Nat.add_le_add_left (by decide) _) (Y.room j).units) (pe_var (hN j) (hv j) hd hcd) pe_str hs) (hbase j) hline, fun c σ ρ T H Q r q => ?_⟩
  unfold mDkPop at q
  split at q
  · rename_i fr s l m t he
    split at q
    · rename_i hs0
      subst hs0
      obtain ⟨a, b, h1, h2, h3, _, _, up⟩ := r.dkAt he
      cases hl : l.getLast? with
      | none =>
        rw [hl] at q
        exact q.elim
      | some y =>
        rw [hl] at q
        refine ⟨_, h1, a, .ref b, rfl, ?_, .inl ⟨rfl, _, .inl (.inl h3)⟩, b, _, .int y, rfl, rfl, h3, ?_, ?_⟩
        · rw [hn]
          have g := DGet.k (k := .inr (dkK s).1) h2
          rw [dk_left] at g
          exact g
        · rw [List.length_map, List.getElem?_map, ← List.getLast?_eq_getElem?, hl]
          rfl
        · rw [← List.map_dropLast]
          exact q _ _ ((up l.dropLast).pushI y)
    · exact q.elim
  · exact q.elim
theorem j_dkApp (s0 i : Nat) {m : MV} (h : JV Y e m) (hn : nm = (dkK s0).1 := by rfl) (hN : ∀ j, (Y.X j).N[i]? = some x := by intro _; rfl) (hv : ∀ j, Vis (Y.X j).env.scope x := by first | exact fun _ => Or.inl rfl | exact fun _ => Or.inr (Or.inl rfl) | exact fun _ => Or.inr (Or.inr rfl)) (hd : (x == ("__debug__" : Str)) = false := by decide) (hcd : (x == ("__classdict__" : Str)) = false := by decide)
    (hs : NoSl (.Constant (.str nm) j1 p2) := by intro _ _; rfl) (hbase : ∀ j, attributeBase (.Subscript (.Name x p1) (.Constant (.str nm) j1 p2) pos) "append" (Y.X j).env (eval (.Subscript (.Name x p1) (.Constant (.str nm) j1 p2) pos) (Y.X j).env) = eval (.Subscript (.Name x p1) (.Constant (.str nm) j1 p2) pos) (Y.X j).env := by intro _; rfl)
    (hfew : ∀ i, ((backTo cpos (starEach [e] (Y.X i).env)).all (fun x => !x.1) && (backToKw cpos (keywordEach [] (Y.X i).env)).all (fun x => x.1.isSome) && decide ([e].length + ([] : List Keyword).length + (if ([] : List Keyword).isEmpty then 0 else 1) < 30)) = true := by intro _; rfl)
    (hline : (apos.endLine == cpos.line) = true := by rfl) (hse : ∀ i, starEach [e] (Y.X i).env = (false, eval e (Y.X i).env) :: starEach [] (Y.X i).env := by intro _; rfl) (hplain : ∀ i, (backTo cpos (starEach [] (Y.X i).env)).any (·.1) = false := by intro _; rfl) :
    JO Y (.Call (.Attribute (.Subscript (.Name x p1) (.Constant (.str nm) j1 p2) pos) "append" apos) [e] [] cpos) (mDkApp s0 i m) := by
  obtain ⟨te, pe, se⟩ := h
  refine ⟨tBM Y.K "list" rAppend (tDGet (tVar i) (tC (.str nm))) (tCons te tNil), fun j => by
    rw [← Y.hK j]
    exact pe_bm PySem.F.plainAttrs_list PySem.F.slot_list_append PySem.F.type_list_append mt_append (pe_dget (Nat.lt_of_le_of_lt (Nat.add_le_add_left (by decide) _) (Y.room j).units) (pe_var (hN j) (hv j) hd hcd) pe_str hs) (pa_cons (pe j) pa_nil (hse j)) (hbase j) (hfew j) hline (hse j) (hplain j), fun c σ ρ T H Q r q => ?_⟩
  unfold mDkApp at q
  split at q
  · rename_i fr s l m0 t he
    split at q
    · rename_i hh
      obtain ⟨hs0, hlen⟩ := hh
      subst hs0
      obtain ⟨a, b, h1, h2, h3, _⟩ := r.dkAt he
      obtain ⟨F, fp, f⟩ := r
      refine ⟨_, h1, a, .ref b, rfl, ?_, .inl ⟨rfl, _, .inl (.inl h3)⟩, se _ σ _ [] H _ f.look ?_⟩
      · rw [hn]
        have g := DGet.k (k := .inr (dkK s).1) h2
        rw [dk_left] at g
        exact g
      · cases hm : m (ρ.map valS) with
        | none =>
          rw [hm] at q
          exact q.elim
        | some z =>
          obtain ⟨d, ρ2⟩ := z
          rw [hm] at q
          cases d with
          | int y =>
            simp only at q
            intro v H1 r1
            have k1 := f.callOut r1 rfl
            have kb : H1 b = some (.lst (l.map V.int)) := by
              obtain ⟨_, _, f1⟩ := r1
              exact f1.keep b _ h3 id
            have ka : H1 a = some (.dK (dkV s b (.int m0) (.int t))) := by
              obtain ⟨_, _, f1⟩ := r1
              exact f1.keep a _ h2 id
            obtain ⟨a', b', e1, e2, e3, _, _, up⟩ := k1.dkAt he
            rw [h1] at e1
            cases e1
            rw [ka] at e2
            have hb : b = b' := by
              have := (List.cons.inj (HO.dK.inj (Option.some.inj e2))).1
              exact V.ref.inj (Prod.mk.inj this).2
            subst hb
            have hvy : v = .int y := by
              cases k1.top
              rfl
            subst hvy
            refine ⟨b, _, .int y, rfl, rfl, kb, sz5l (by rw [List.length_map]; omega), q _ _ ?_⟩
            have e : (l ++ [y]).map V.int = l.map V.int ++ [V.int y] := by rw [List.map_append]; rfl
            rw [← e]
            exact Rel.pushN (Rel.pop (up (l ++ [y])))
          | _ => exact q.elim
    · exact q.elim
  · exact q.elim
theorem s_dkSetM (s0 i : Nat) {m : MV} {value : Expr} {pos' : Pos} (h : JV Y value m) (hn : nm = (dkK s0).2.1 := by rfl) (hN : ∀ j, (Y.X j).N[i]? = some x := by intro _; rfl) (hv : ∀ j, Vis (Y.X j).env.scope x := by first | exact fun _ => Or.inl rfl | exact fun _ => Or.inr (Or.inl rfl) | exact fun _ => Or.inr (Or.inr rfl)) (hd : (x == ("__debug__" : Str)) = false := by decide) (hcd : (x == ("__classdict__" : Str)) = false := by decide)
    (hsw : ∀ j, swapsWith value (some (.Subscript (.Name x p1) (.Constant (.str nm) j1 p2) pos')) pos.line (Y.X j).env = pure false := by intro _; rfl) : JS Y (.Assign [.Subscript (.Name x p1) (.Constant (.str nm) j1 p2) pos'] value pos) (mDkSetM s0 i m) := by
  obtain ⟨tv, pv, sv⟩ := h
  refine ⟨sDPut (tVar i) (tC (.str nm)) tv, fun j => ps_dput (Nat.lt_of_le_of_lt (Nat.add_le_add_left (by decide) _) (Y.room j).units) (pe_var (hN j) (hv j) hd hcd) pe_str (pv j) (hsw j), fun c σ ρ T H D r q => ?_⟩
  unfold mDkSetM at q
  refine sv c σ ρ T H _ r ?_
  cases hm : m ρ with
  | none =>
    rw [hm] at q
    exact q.elim
  | some z =>
    obtain ⟨d, ρ1⟩ := z
    rw [hm] at q
    cases d with
    | int y =>
      simp only at q
      intro v H1 r1
      split at q
      · rename_i fr s l mx t he
        split at q
        · rename_i hs0
          subst hs0
          obtain ⟨a, b, h1, h2, h3, _, up, _⟩ := r1.dkAt he
          have hvy : v = .int y := by
            cases r1.top
            rfl
          subst hvy
          refine ⟨_, h1, a, _, rfl, ?_, q _ _ (Rel.pop (up y t))⟩
          rw [hn]
          have g := DPut.k (v := .int y) (k := .inr (dkK s).2.1) h2 (by show 3 < sizeLine; rw [sizeLine_eq]; omega)
          rw [dk_putM] at g
          exact g
        · exact q.elim
      · exact q.elim
    | _ => exact q.elim
theorem s_dkSetT (s0 i : Nat) {m : MV} {value : Expr} {pos' : Pos} (h : JV Y value m) (hn : nm = (dkK s0).2.2 := by rfl) (hN : ∀ j, (Y.X j).N[i]? = some x := by intro _; rfl) (hv : ∀ j, Vis (Y.X j).env.scope x := by first | exact fun _ => Or.inl rfl | exact fun _ => Or.inr (Or.inl rfl) | exact fun _ => Or.inr (Or.inr rfl)) (hd : (x == ("__debug__" : Str)) = false := by decide) (hcd : (x == ("__classdict__" : Str)) = false := by decide)
    (hsw : ∀ j, swapsWith value (some (.Subscript (.Name x p1) (.Constant (.str nm) j1 p2) pos')) pos.line (Y.X j).env = pure false := by intro _; rfl) : JS Y (.Assign [.Subscript (.Name x p1) (.Constant (.str nm) j1 p2) pos'] value pos) (mDkSetT s0 i m) := by
  obtain ⟨tv, pv, sv⟩ := h
  refine ⟨sDPut (tVar i) (tC (.str nm)) tv, fun j => ps_dput (Nat.lt_of_le_of_lt (Nat.add_le_add_left (by decide) _) (Y.room j).units) (pe_var (hN j) (hv j) hd hcd) pe_str (pv j) (hsw j), fun c σ ρ T H D r q => ?_⟩
  unfold mDkSetT at q
  refine sv c σ ρ T H _ r ?_
  cases hm : m ρ with
  | none =>
    rw [hm] at q
    exact q.elim
  | some z =>
    obtain ⟨d, ρ1⟩ := z
    rw [hm] at q
    cases d with
    | int y =>
      simp only at q
      intro v H1 r1
      split at q
      · rename_i fr s l mx t he
        split at q
        · rename_i hs0
          subst hs0
          obtain ⟨a, b, h1, h2, h3, _, up, _⟩ := r1.dkAt he
          have hvy : v = .int y := by
            cases r1.top
            rfl
          subst hvy
          refine ⟨_, h1, a, _, rfl, ?_, q _ _ (Rel.pop (up mx y))⟩
          rw [hn]
          have g := DPut.k (v := .int y) (k := .inr (dkK s).2.2) h2 (by show 3 < sizeLine; rw [sizeLine_eq]; omega)
          rw [dk_putT] at g
          exact g
        · exact q.elim
      · exact q.elim
    | _ => exact q.elim
theorem j_dkNew (s : Nat) {e1 e2 e3 : Expr} {q1 q2 q3 : Pos} {n1 n2 n3 : Str} {k1 k2 k3 : Nat} {ma : MO} {mb mc : MV} (ha : JO Y e1 ma) (hb : JV Y e2 mb) (hc : JV Y e3 mc) (h1 : n1 = (dkK s).1 := by rfl) (h2 : n2 = (dkK s).2.1 := by rfl) (h3 : n3 = (dkK s).2.2 := by rfl) :
    JO Y (.Dict [some (.Constant (.str n1) k1 q1), some (.Constant (.str n2) k2 q2), some (.Constant (.str n3) k3 q3)] [e1, e2, e3] pos) (mDkNew s ma mb mc) := by
  subst h1 h2 h3
  obtain ⟨t1, w1, s1⟩ := ha
  obtain ⟨t2, w2, s2⟩ := hb
  obtain ⟨t3, w3, s3⟩ := hc
  refine ⟨tDisp [(tC (.str (dkK s).1), t1), (tC (.str (dkK s).2.1), t2), (tC (.str (dkK s).2.2), t3)], fun j => pe_disp (pps_cons pe_str (w1 j) (pps_cons pe_str (w2 j) (pps_cons pe_str (w3 j) pps_nil))) rfl rfl (List.cons_ne_nil _ _) (by show 3 ≤ 15; omega), fun c σ ρ T H Q r q => fun p hp => ?_⟩
  obtain ⟨F, fp, f⟩ := r
  have r0 := f.dctNew hp
  unfold mDkNew at q
  refine s1 c σ ρ _ _ _ r0 ?_
  split at q
  · rename_i ds ρ1 e1
    rw [e1]
    intro v1 H1 r1
    split at q
    · rename_i l hl
      have hds := intsD_eq hl
      subst hds
      split at q
      · rename_i m ρ2 e2
        refine s2 c σ ρ1 _ _ _ r1 ?_
        rw [e2]
        intro v2 H2 r2
        split at q
        · rename_i t ρ3 e3
          refine s3 c σ ρ2 _ _ _ r2 ?_
          rw [e3]
          intro v3 H3 r3
          have hv3 : v3 = .int t := by
            cases r3.top
            rfl
          have r4 := r3.pop
          have hv2 : v2 = .int m := by
            cases r4.top
            rfl
          have r5 := (r4.pop).swap
          obtain ⟨F5, fp5, f5⟩ := r5
          have hv1 : ∃ b, v1 = .ref b := by
            obtain ⟨_, _, _, _, g5⟩ := f5.pop
            obtain ⟨b, _, hb, _⟩ := g5.lstTop
            exact ⟨b, hb⟩
          obtain ⟨b, rfl⟩ := hv1
          obtain ⟨hp3, fin⟩ := f5.dkClose (m := m) (t := t)
          refine ⟨hp3, dkV s b (.int m) (.int t), ?_, by show 3 ≤ 15; omega, ?_⟩
          · rw [hv2, hv3]
            rfl
          · rw [dk_merge]
            exact q _ _ fin
        · exact q.elim
      · exact q.elim
    · exact q.elim
  · exact q.elim
end
end Fj

set_option Elab.async false
set_option linter.all false
set_option maxRecDepth 100000
set_option maxHeartbeats 4000000
set_option autoImplicit false
/-! What a printed text leans on. -/
namespace Fj
open PySem PySem.Spec PyProof.Rows L2

theorem j_gint {Y : Fam} {x : Str} {i : Int} {pos : Pos} (h : ∃ t, Y.mg x = some (.int i t)) (hg : ∀ j, Gl (Y.X j) x := by intro _; rfl) (hd : (x == ("__debug__" : Str)) = false := by decide) : JV Y (.Name x pos) (mC (.int i)) :=
  let ⟨t, e⟩ := h
  j_glob (v := .int i) e ⟨t, rfl⟩ (fun _ => .int i) hg hd
theorem j_gstr {Y : Fam} {x z : Str} {pos : Pos} (h : ∃ t, Y.mg x = some (.str z t)) (hg : ∀ j, Gl (Y.X j) x := by intro _; rfl) (hd : (x == ("__debug__" : Str)) = false := by decide) : JV Y (.Name x pos) (mC (.str z)) :=
  let ⟨t, e⟩ := h
  j_glob (v := .str z) e ⟨t, rfl⟩ (fun _ => .str z) hg hd
section
variable {K : PySem.W.Frag} {x qual : Str} {params : Arguments} {body : List Stmt} {scope : Scope} {kws : List (Str × V)} {dvs dvs' : List V} {f : Addr} {fd fd' : FuncData}
theorem FunD.bindG0 {ps ks : List Str} {n : Nat} {p : List Nat} (F : FunD K x qual params body scope [] kws f fd)
    (h : ∀ (kV doc pm : Value) (an : Option Addr) (cdv ct : Value) (us ws : List Value), us.length = n → ws.length = ks.length → bindArgs (PySem.W.fnOf x qual params body scope .none kV doc pm an cdv ct) ⟨us, ks.zip ws⟩ = pure (ps.zip (pick p (us ++ ws)))) : BindG K fd ps n ks [] p := by
  obtain ⟨oc, od, dV, kV, doc, pm, an, cdv, ct, osl, rfl, lk, hcd, hD, hK⟩ := F.ex
  rcases hD with ⟨_, rfl⟩ | ⟨e, _⟩
  · refine ⟨[], .nil, fun s us ws hK h1 h2 => ?_⟩
    rw [List.append_nil]
    exact .of_eq (h kV doc pm an cdv ct us ws h1 h2)
  · exact absurd rfl e
theorem FunD.bindG1 {ps ks : List Str} {n : Nat} {p : List Nat} (F : FunD K x qual params body scope dvs kws f fd) (hd : dvs ≠ [])
    (h : ∀ (T : Addr) (kV doc pm : Value) (an : Option Addr) (cdv ct : Value) (us ws its : List Value), us.length = n → ws.length = ks.length → its.length = dvs.length →
      (∃ k, bindArgs (PySem.W.fnOf x qual params body scope (.ref T) kV doc pm an cdv ct) ⟨us, ks.zip ws⟩ = seqItems? (.ref T) >>= k ∧ k (some its.toArray) = pure (ps.zip (pick p (us ++ ws ++ its)))) ∨ bindArgs (PySem.W.fnOf x qual params body scope (.ref T) kV doc pm an cdv ct) ⟨us, ks.zip ws⟩ = pure (ps.zip (pick p (us ++ ws ++ its)))) : BindG K fd ps n ks dvs p := by
  obtain ⟨oc, od, dV, kV, doc, pm, an, cdv, ct, osl, rfl, lk, hcd, hD, hK⟩ := F.ex
  rcases hD with ⟨e, _⟩ | ⟨_, T, o, its, m, rfl, lT, oT, rT⟩
  · exact absurd e hd
  · refine ⟨its, rT, fun s us ws X l1 l2 => ?_⟩
    rcases h T kV doc pm an cdv ct us ws its l1 l2 rT.length.symm with ⟨k, e1, e2⟩ | e
    · refine BindsTo.of_looks fun M => ?_
      rw [e1]
      exact looks_items X lT oT (.of_pure e2)
    · exact .of_eq e
theorem FunD.same (F : FunD K x qual params body scope dvs kws f fd) (F' : FunD K x qual params body scope dvs' kws f fd') : fd = fd' := by
  obtain ⟨oc, od, dV, kV, doc, pm, an, cdv, ct, osl, _, lk, _⟩ := F.ex
  obtain ⟨oc', od', dV', kV', doc', pm', an', cdv', ct', osl', _, lk', _⟩ := F'.ex
  rw [lk] at lk'
  cases lk'
  rfl
end
theorem FnG.never {P : Program} {w : World} {K : PySem.W.Frag} {mg : Str → Option Value} {base : Heap} {k : Nat} {f : Addr} {fd : FuncData} {ps : List Str} : FnG P w K mg base k f fd ps (fun _ => none) :=
  ⟨fun _ _ _ _ _ _ _ _ _ _ _ _ _ ⟨_, _, _, _, _, _, h⟩ => h.elim⟩
end Fj

set_option Elab.async false
set_option linter.all false
set_option maxRecDepth 100000
set_option maxHeartbeats 4000000
set_option autoImplicit false
/-! Several names at once. -/
namespace Fj
open PySem PySem.Spec PyProof.Rows L2

def tmo : List V → List Ent → Tm
  | v :: vs, e :: es => tmo vs es ++ [(v, e)]
  | _, _ => []
abbrev ME := En → Option (List Ent × En)
def PostE (K : PySem.W.Frag) (c : Ct) (σ : L2.St) (T : Tm) (r : Option (List Ent × En)) (Q : List V → Hp → Prop) : Prop := match r with
  | none => False
  | some (es, ρ) => ∀ vs H, vs.length = es.length → Rel K c σ ρ (tmo vs es ++ T) H → Q vs H
def SemE (K : PySem.W.Frag) (t : TA) (m : ME) : Prop := ∀ (c : Ct) (σ : L2.St) (ρ : En) (T : Tm) (H : Hp) (Q : List V → Hp → Prop), Rel K c σ ρ T H → PostE K c σ T (m ρ) Q → t σ H Q
def JE (Y : Fam) (es : List Expr) (m : ME) : Prop := ∃ t, (∀ i, PA (Y.X i) es t) ∧ SemE Y.K t m
def mE0 : ME := fun ρ => some ([], ρ)
def mE1 (m : MO) (n : ME) : ME := fun ρ => match m ρ with
  | none => none
  | some (e, ρ) => match n ρ with
    | none => none
    | some (es, ρ) => some (e :: es, ρ)
section
variable {Y : Fam} {e : Expr} {es : List Expr}
theorem e_nil : JE Y [] mE0 := ⟨tNil, fun _ => pa_nil, fun _ _ _ _ H _ r q => q [] H rfl r⟩
theorem e_cons {m : MO} {n : ME} (h : JO Y e m) (g : JE Y es n) (hs : ∀ j, starEach (e :: es) (Y.X j).env = (false, eval e (Y.X j).env) :: starEach es (Y.X j).env := by intro _; rfl) : JE Y (e :: es) (mE1 m n) := by
  obtain ⟨t, p, s⟩ := h
  obtain ⟨u, p', s'⟩ := g
  refine ⟨tCons t u, fun j => pa_cons (p j) (p' j) (hs j), fun c σ ρ T H Q r q => s c σ ρ T H _ r ?_⟩
  unfold mE1 at q
  cases hm : m ρ with
  | none =>
    rw [hm] at q
    exact q
  | some z =>
    obtain ⟨d, ρ1⟩ := z
    rw [hm] at q
    simp only at q
    intro v H1 r1
    refine s' c σ ρ1 _ H1 _ r1 ?_
    cases hn : n ρ1 with
    | none =>
      rw [hn] at q
      exact q
    | some z =>
      obtain ⟨ds, ρ2⟩ := z
      rw [hn] at q
      intro vs H2 hl r2
      refine q (v :: vs) H2 (congrArg Nat.succ hl) ?_
      show Rel Y.K c σ ρ2 ((tmo vs ds ++ [(v, d)]) ++ T) H2
      rw [List.append_assoc]
      exact r2
end
def mPuts : List Nat → List Ent → En → Option En
  | [], [], ρ => some ρ
  | i :: is, e :: es, ρ => if freeE ρ i = true then mPuts is es (ρ.set i e) else none
  | _, _, _ => none
def mPar (is : List Nat) (n : ME) : MS := fun ρ => match n ρ with
  | none => none
  | some (es, ρ) => (mPuts is es ρ).map .nx
section
variable {K : PySem.W.Frag}
theorem par_inv {is : List Nat} {n : ME} {ρ : En} {c : Ct} {T : Tm} {D : Ends} (q : PostS K c T D (mPar is n ρ)) : ∃ es ρ1 ρ2, n ρ = some (es, ρ1) ∧ mPuts is es ρ1 = some ρ2 ∧ ∀ σ' H, Rel K c σ' ρ2 T H → D.nx σ' H := by
  unfold mPar at q
  cases hn : n ρ with
  | none =>
    rw [hn] at q
    exact q.elim
  | some z =>
    obtain ⟨es, ρ1⟩ := z
    rw [hn] at q
    simp only at q
    cases hm : mPuts is es ρ1 with
    | none =>
      rw [hm] at q
      exact q.elim
    | some ρ2 =>
      rw [hm] at q
      exact ⟨es, ρ1, ρ2, rfl, hm, q⟩
theorem sem_par2 {t : TA} {n : ME} {i j : Nat} (s : SemE K t n) : SemS K (tPar i j t) (mPar [i, j] n) := fun c σ ρ T H D r q => by
  obtain ⟨es, ρ1, ρ2, hn, hm, q⟩ := par_inv q
  refine s c σ ρ T H _ r ?_
  rw [hn]
  intro vs H1 hl r1
  match es, vs, hl, hm, r1 with
  | [e, f], [v, w], _, hm, r1 =>
    refine ⟨v, w, rfl, ?_⟩
    unfold mPuts at hm
    split at hm
    · rename_i h1
      unfold mPuts at hm
      split at hm
      · rename_i h2
        cases hm
        have r2 : Rel K c σ ρ1 ((w, f) :: (v, e) :: T) H1 := r1
        exact q _ _ ((r2.swap.put h1).put h2)
      · cases hm
    · cases hm
  | [], _, _, hm, _ => cases hm
  | [_], [_], _, hm, _ =>
    unfold mPuts at hm
    split at hm <;> cases hm
  | _ :: _ :: _ :: _, _, _, hm, _ =>
    unfold mPuts at hm
    split at hm
    · unfold mPuts at hm
      split at hm <;> cases hm
    · cases hm
theorem sem_par3 {t : TA} {n : ME} {i j l : Nat} (s : SemE K t n) : SemS K (tPar3 i j l t) (mPar [i, j, l] n) := fun c σ ρ T H D r q => by
  obtain ⟨es, ρ1, ρ2, hn, hm, q⟩ := par_inv q
  refine s c σ ρ T H _ r ?_
  rw [hn]
  intro vs H1 hl r1
  match es, vs, hl, hm, r1 with
  | [e, f, g], [v, w, z], _, hm, r1 =>
    refine ⟨v, w, z, rfl, ?_⟩
    unfold mPuts at hm
    split at hm
    · rename_i h1
      unfold mPuts at hm
      split at hm
      · rename_i h2
        unfold mPuts at hm
        split at hm
        · rename_i h3
          cases hm
          have r2 : Rel K c σ ρ1 ((z, g) :: (w, f) :: (v, e) :: T) H1 := r1
          have r3 : Rel K c σ ρ1 ((v, e) :: (w, f) :: (z, g) :: T) H1 := r2.perm (by
            refine (List.Perm.swap (w, f) (z, g) _).trans ?_
            refine (List.Perm.cons _ (List.Perm.swap (v, e) (z, g) _)).trans ?_
            exact List.Perm.swap (v, e) (w, f) _)
          exact q _ _ (((r3.put h1).put h2).put h3)
        · cases hm
      · cases hm
    · cases hm
  | [], _, _, hm, _ => cases hm
  | [_], [_], _, hm, _ =>
    unfold mPuts at hm
    split at hm <;> cases hm
  | [_, _], [_, _], _, hm, _ =>
    unfold mPuts at hm
    split at hm
    · unfold mPuts at hm
      split at hm <;> cases hm
    · cases hm
  | _ :: _ :: _ :: _ :: _, _, _, hm, _ =>
    unfold mPuts at hm
    split at hm
    · unfold mPuts at hm
      split at hm
      · unfold mPuts at hm
        split at hm <;> cases hm
      · cases hm
    · cases hm
end
def JN (Y : Fam) (ts : List Expr) (is : List Nat) : Prop := ∃ g, (∀ j, PGs (Y.X j) ts g) ∧ ∀ (c : Ct) (σ : L2.St) (ρ : En) (T : Tm) (H : Hp) (xs : List V) (es : List Ent) (ρ' : En) (Q : L2.St → Hp → Prop), xs.length = es.length → Rel Y.K c σ ρ (xs.zip es ++ T) H → mPuts is es ρ = some ρ' → (∀ σ' H, Rel Y.K c σ' ρ' T H → Q σ' H) → g xs σ H Q
section
variable {Y : Fam} {pos : Pos}
theorem n_nil : JN Y [] [] := by
  refine ⟨gNil, fun j => pgs_nil, fun c σ ρ T H xs es ρ' Q hl r hm q => ?_⟩
  cases es with
  | nil =>
    cases hm
    have : xs = [] := List.eq_nil_of_length_eq_zero hl
    subst this
    exact ⟨rfl, q _ _ r⟩
  | cons e es => cases hm
theorem n_cons (i : Nat) {x : Str} {ts : List Expr} {is : List Nat} {p : Pos} (g : JN Y ts is) (hi : ∀ j, (Y.X j).N[i]? = some x := by intro _; rfl) (hN : ∀ j, (Y.X j).N.Nodup := by assumption) (hx : ∀ j, Loc (Y.X j).env.scope x := by first | exact fun _ => Or.inl rfl | exact fun _ => Or.inr rfl)
    (hf : ∀ j, (Y.X j).fn x = true ∨ (Y.X j).env.scope.names.lookup x = some .local := by first | exact fun _ => .inl rfl | exact fun _ => .inr rfl) (hq : ∀ j, (assignEach (.Name x p :: ts) (Y.X j).env).map (·.2) = assign (.Name x p) (Y.X j).env :: (assignEach ts (Y.X j).env).map (·.2) := by intro _; rfl) : JN Y (.Name x p :: ts) (i :: is) := by
  obtain ⟨u, p1, s⟩ := g
  refine ⟨gCons (gName i) u, fun j => pgs_cons (pg_name (hN j) (hi j) (hx j) (hf j)) (p1 j) (hq j), fun c σ ρ T H xs es ρ' Q hl r hm q => ?_⟩
  cases es with
  | nil => cases hm
  | cons e es =>
    cases xs with
    | nil => cases hl
    | cons v xs =>
      unfold mPuts at hm
      split at hm
      · rename_i h1
        exact ⟨v, xs, rfl, s c _ _ T H xs es ρ' Q (Nat.succ.inj hl) (Rel.put r h1) hm q⟩
      · cases hm
theorem s_par2 (i j : Nat) {x y : Str} {a b : Expr} {n : ME} {px py pt pt2 : Pos} {kt k2 : Nat} (h : JE Y [a, b] n) (hN : ∀ k, (Y.X k).N.Nodup := by assumption) (hi : ∀ k, (Y.X k).N[i]? = some x := by intro _; rfl) (hj : ∀ k, (Y.X k).N[j]? = some y := by intro _; rfl) (hij : i ≠ j := by decide)
    (hx : ∀ k, (Y.X k).env.scope.names.lookup x = some .local := by intro _; rfl) (hy : ∀ k, (Y.X k).env.scope.names.lookup y = some .local := by intro _; rfl)
    (hw : ∀ k, swappedStores [.Tuple [.Name x px, .Name y py] kt pt] (.Tuple [a, b] k2 pt2) (Y.X k).env = pure (some [x, y]) := by intro _; rfl)
    (hs : ∀ k, swapsWithSole [.Tuple [.Name x px, .Name y py] kt pt] (.Tuple [a, b] k2 pt2) pos.line (Y.X k).env = pure false := by intro _; rfl) : JS Y (.Assign [.Tuple [.Name x px, .Name y py] kt pt] (.Tuple [a, b] k2 pt2) pos) (mPar [i, j] n) := by
  obtain ⟨t, p, s⟩ := h
  exact ⟨tPar i j t, fun k => ps_par (Y.calm k) (hN k) (hi k) (hj k) hij (hx k) (hy k) (p k) (hw k) (hs k), sem_par2 s⟩
theorem s_par3 (i j l : Nat) {x y z : Str} {a b c0 : Expr} {n : ME} {px py pz pt pt2 : Pos} {kt k2 : Nat} (h : JE Y [a, b, c0] n) (hN : ∀ k, (Y.X k).N.Nodup := by assumption) (hi : ∀ k, (Y.X k).N[i]? = some x := by intro _; rfl) (hj : ∀ k, (Y.X k).N[j]? = some y := by intro _; rfl) (hl : ∀ k, (Y.X k).N[l]? = some z := by intro _; rfl)
    (hij : i ≠ j := by decide) (hil : i ≠ l := by decide) (hjl : j ≠ l := by decide)
    (hx : ∀ k, (Y.X k).env.scope.names.lookup x = some .local := by intro _; rfl) (hy : ∀ k, (Y.X k).env.scope.names.lookup y = some .local := by intro _; rfl) (hz : ∀ k, (Y.X k).env.scope.names.lookup z = some .local := by intro _; rfl)
    (hw : ∀ k, swappedStores [.Tuple [.Name x px, .Name y py, .Name z pz] kt pt] (.Tuple [a, b, c0] k2 pt2) (Y.X k).env = pure (some [x, y, z]) := by intro _; rfl)
    (hs : ∀ k, swapsWithSole [.Tuple [.Name x px, .Name y py, .Name z pz] kt pt] (.Tuple [a, b, c0] k2 pt2) pos.line (Y.X k).env = pure false := by intro _; rfl) : JS Y (.Assign [.Tuple [.Name x px, .Name y py, .Name z pz] kt pt] (.Tuple [a, b, c0] k2 pt2) pos) (mPar [i, j, l] n) := by
  obtain ⟨t, p, s⟩ := h
  exact ⟨tPar3 i j l t, fun k => ps_par3 (Y.calm k) (hN k) (hi k) (hj k) (hl k) hij hil hjl (hx k) (hy k) (hz k) (p k) (hw k) (hs k), sem_par3 s⟩
theorem tmo_zip : ∀ {vs : List V} {es : List Ent}, (tmo vs es).Perm (vs.zip es)
  | [], [] => .refl _
  | [], _ :: _ => .refl _
  | _ :: _, [] => .refl _
  | v :: vs, e :: es => by
    show (tmo vs es ++ [(v, e)]).Perm ((v, e) :: vs.zip es)
    exact List.perm_append_comm.trans (List.Perm.cons _ tmo_zip)
theorem s_parT {ts es : List Expr} {n : ME} {is : List Nat} {pt pt2 : Pos} {kt k2 k : Nat} (h : JE Y es n) (g : JN Y ts is) (hk : is.length = k := by rfl) (hn : ∀ j, (assignEach ts (Y.X j).env).length = k := by intro _; rfl) (hst : ∀ j, (assignEach ts (Y.X j).env).findIdx? (·.1) = none := by intro _; rfl)
    (hs : ∀ j, swapsWithSole [.Tuple ts kt pt] (.Tuple es k2 pt2) pos.line (Y.X j).env = pure false := by intro _; rfl) (hw : ∀ j, swappedStores [.Tuple ts kt pt] (.Tuple es k2 pt2) (Y.X j).env = pure none := by intro _; rfl) (h1 : ∀ j, (assignEach [.Tuple ts kt pt] (Y.X j).env).map (·.2) = [assign (.Tuple ts kt pt) (Y.X j).env] := by intro _; rfl) (hk5 : k ≤ 100 := by decide) :
    JS Y (.Assign [.Tuple ts kt pt] (.Tuple es k2 pt2) pos) (mPar is n) := by
  obtain ⟨t, p, s⟩ := h
  obtain ⟨u, p', s'⟩ := g
  refine ⟨tAsg (tTup t) (gTup Y.K k u), fun j => ps_asg (pe_tup (p j)) (by rw [← Y.hK j]; exact pg_tup (Y.calm j) (p' j) (hn j) (hst j)) (hs j) (hw j) (h1 j), fun c σ ρ T H D r q => ?_⟩
  obtain ⟨es, ρ1, ρ2, hn, hm, q⟩ := par_inv q
  refine s c σ ρ T H _ r ?_
  rw [hn]
  intro vs H1 hl r1
  have len : ∀ {is : List Nat} {es : List Ent} {ρ ρ' : En}, mPuts is es ρ = some ρ' → es.length = is.length := by
    intro is
    induction is with
    | nil =>
      intro es ρ ρ' h
      cases es with
      | nil => rfl
      | cons => cases h
    | cons i is ih =>
      intro es ρ ρ' h
      cases es with
      | nil => cases h
      | cons e es =>
        unfold mPuts at h
        split at h
        · exact congrArg Nat.succ (ih h)
        · cases h
  have hlen : vs.length = k := by rw [hl, len hm, hk]
  refine ⟨sz5 (by omega), fun p hp => ⟨p, vs, rfl, .inl (.inl upd_same), hlen, ?_⟩⟩
  refine s' c σ ρ1 T _ vs es ρ2 _ hl ((r1.perm (List.Perm.append_right T tmo_zip)).fresh hp _) hm q
end
end Fj

set_option Elab.async false
set_option linter.all false
set_option maxRecDepth 100000
set_option maxHeartbeats 4000000
set_option autoImplicit false
/-! Rows in order; sets put in order. -/
namespace Fj
open PySem PySem.Spec PyProof.Rows L2

section
variable {α : Type}
def ins (lt : α → α → Bool) (x : α) : List α → List α
  | [] => [x]
  | y :: ys => if lt y x = true then y :: ins lt x ys else x :: y :: ys
def isort (lt : α → α → Bool) : List α → List α
  | [] => []
  | x :: xs => ins lt x (isort lt xs)
theorem ins_perm (lt : α → α → Bool) (x : α) : ∀ ys : List α, (ins lt x ys).Perm (x :: ys)
  | [] => .refl _
  | y :: ys => by
    unfold ins
    split
    · exact (List.Perm.cons y (ins_perm lt x ys)).trans (List.Perm.swap x y ys)
    · exact .refl _
theorem isort_perm (lt : α → α → Bool) : ∀ xs : List α, (isort lt xs).Perm xs
  | [] => .refl _
  | x :: xs => (ins_perm lt x _).trans (List.Perm.cons x (isort_perm lt xs))
/-- a strict order, total but for what is alike -/
structure Ord (lt : α → α → Bool) : Prop where
  asym : ∀ x y, lt x y = true → lt y x = false
  tr : ∀ x y z, lt y x = false → lt z y = false → lt z x = false
theorem ins_sorted {lt : α → α → Bool} (O : Ord lt) (x : α) : ∀ {ys : List α}, ys.Pairwise (fun a b => lt b a = false) → (ins lt x ys).Pairwise (fun a b => lt b a = false)
  | [], _ => List.pairwise_singleton _ _
  | y :: ys, h => by
    obtain ⟨h1, h2⟩ := List.pairwise_cons.mp h
    unfold ins
    split
    · rename_i hl
      refine List.pairwise_cons.mpr ⟨fun z hz => ?_, ins_sorted O x h2⟩
      rcases List.mem_cons.mp ((ins_perm lt x ys).mem_iff.mp hz) with e | e
      · rw [e]
        exact O.asym _ _ hl
      · exact h1 z e
    · rename_i hl
      have hl : lt y x = false := Bool.eq_false_iff.mpr hl
      refine List.pairwise_cons.mpr ⟨fun z hz => ?_, h⟩
      rcases List.mem_cons.mp hz with e | e
      · rw [e]
        exact hl
      · exact O.tr _ _ _ hl (h1 z e)
theorem isort_sorted {lt : α → α → Bool} (O : Ord lt) : ∀ xs : List α, (isort lt xs).Pairwise (fun a b => lt b a = false)
  | [] => .nil
  | x :: xs => ins_sorted O x (isort_sorted O xs)
theorem uniq_sorted {r : α → α → Prop} (ha : ∀ a b, r a b → r b a → a = b) : ∀ {l m : List α}, l.Perm m → l.Pairwise r → m.Pairwise r → l = m
  | [], m, p, _, _ => (List.perm_nil.mp p.symm).symm
  | a :: l, [], p, _, _ => by
    have := p.length_eq
    cases this
  | a :: l, b :: m, p, h1, h2 => by
    obtain ⟨a1, a2⟩ := List.pairwise_cons.mp h1
    obtain ⟨b1, b2⟩ := List.pairwise_cons.mp h2
    have e : a = b := by
      rcases List.mem_cons.mp (p.mem_iff.mp (List.mem_cons_self ..)) with e | e
      · exact e
      · rcases List.mem_cons.mp (p.mem_iff.mpr (List.mem_cons_self ..)) with e' | e'
        · exact e'.symm
        · exact ha _ _ (a1 b e') (b1 a e)
    subst e
    rw [uniq_sorted ha p.cons_inv a2 b2]
theorem uniq_strict {r : α → α → Prop} (hi : ∀ a, ¬ r a a) (ht : ∀ a b, r a b → ¬ r b a) : ∀ {l m : List α}, (∀ x, x ∈ l ↔ x ∈ m) → l.Pairwise r → m.Pairwise r → l = m
  | [], [], _, _, _ => rfl
  | [], b :: m, p, _, _ => (List.not_mem_nil ((p b).mpr (List.mem_cons_self ..))).elim
  | a :: l, [], p, _, _ => (List.not_mem_nil ((p a).mp (List.mem_cons_self ..))).elim
  | a :: l, b :: m, p, h1, h2 => by
    obtain ⟨a1, a2⟩ := List.pairwise_cons.mp h1
    obtain ⟨b1, b2⟩ := List.pairwise_cons.mp h2
    have e : a = b := by
      rcases List.mem_cons.mp ((p a).mp (List.mem_cons_self ..)) with e | e
      · exact e
      · rcases List.mem_cons.mp ((p b).mpr (List.mem_cons_self ..)) with e' | e'
        · exact e'.symm
        · exact absurd (b1 a e) (ht _ _ (a1 b e'))
    subst e
    have na : a ∉ l := fun z => hi a (a1 a z)
    have nb : a ∉ m := fun z => hi a (b1 a z)
    rw [uniq_strict hi ht (fun x => ⟨fun hx => ?_, fun hx => ?_⟩) a2 b2]
    · rcases List.mem_cons.mp ((p x).mp (List.mem_cons_of_mem _ hx)) with e | e
      · exact absurd (e ▸ hx) na
      · exact e
    · rcases List.mem_cons.mp ((p x).mpr (List.mem_cons_of_mem _ hx)) with e | e
      · exact absurd (e ▸ hx) nb
      · exact e
end
def dedup {α : Type} [DecidableEq α] : List α → List α
  | [] => []
  | x :: xs => if x ∈ xs then dedup xs else x :: dedup xs
theorem mem_dedup {α : Type} [DecidableEq α] : ∀ {xs : List α} {x : α}, x ∈ dedup xs ↔ x ∈ xs
  | [], x => Iff.rfl
  | y :: xs, x => by
    unfold dedup
    split
    · rename_i h
      rw [mem_dedup, List.mem_cons]
      exact ⟨.inr, fun z => z.elim (fun e => e ▸ h) id⟩
    · rw [List.mem_cons, List.mem_cons, mem_dedup]
theorem nodup_dedup {α : Type} [DecidableEq α] : ∀ xs : List α, (dedup xs).Nodup
  | [] => List.nodup_nil
  | y :: xs => by
    unfold dedup
    split
    · exact nodup_dedup xs
    · rename_i h
      exact List.nodup_cons.mpr ⟨fun z => h (mem_dedup.mp z), nodup_dedup xs⟩
/-! ### rows of numbers by their order -/
theorem ord_lex : Ord HT.lexLt := ⟨NtL.lex_asym, NtL.lex_tr⟩
theorem lex_tot : ∀ {xs ys : List Int}, HT.lexLt xs ys = false → HT.lexLt ys xs = false → xs = ys
  | [], [], _, _ => rfl
  | [], y :: ys, h, _ => by cases h
  | x :: xs, [], _, h => by cases h
  | x :: xs, y :: ys, h1, h2 => by
    rw [HT.lexLt_cons] at h1 h2
    by_cases e : x = y
    · rw [if_pos e] at h1
      rw [if_pos e.symm] at h2
      rw [e, lex_tot h1 h2]
    · rw [if_neg e] at h1
      rw [if_neg fun z => e z.symm] at h2
      have a := of_decide_eq_false h1
      have b := of_decide_eq_false h2
      omega
theorem lex_irr : ∀ xs : List Int, HT.lexLt xs xs = false
  | [] => rfl
  | x :: xs => by
    rw [HT.lexLt_cons, if_pos rfl]
    exact lex_irr xs
theorem code_lexLe {B : Int} : ∀ {x y : List Int}, x.length = y.length → TS.Bd B x → TS.Bd B y → TS.code B x ≤ TS.code B y → HT.lexLt y x = false
  | [], [], _, _, _, _ => rfl
  | [], _ :: _, h, _, _, _ => by cases h
  | _ :: _, [], h, _, _, _ => by cases h
  | d :: r, e :: q, hl, h1, h2, h => by
    rw [HT.lexLt_cons]
    by_cases he : e = d
    · rw [if_pos he]
      subst he
      refine code_lexLe (Nat.succ.inj hl) h1.tail h2.tail ?_
      exact Int.not_lt.mp fun z => absurd h (Int.not_le.mpr ((TS.code_same (Nat.succ.inj hl).symm).mpr z))
    · rw [if_neg he]
      refine decide_eq_false fun z => ?_
      exact absurd h (Int.not_le.mpr (TS.code_lt (Nat.succ.inj hl).symm h2.tail h1.tail z))
abbrev tupI (ns : List Int) : PyData := .tuple (ns.map .int)
def tupsD : List PyData → Option (List (List Int))
  | [] => some []
  | .tuple xs :: r => match intsD xs, tupsD r with
    | some ns, some nss => some (ns :: nss)
    | _, _ => none
  | _ => none
theorem tupsD_eq : ∀ {ds : List PyData} {nss : List (List Int)}, tupsD ds = some nss → ds = nss.map tupI
  | [], nss, h => by
    cases h
    rfl
  | d :: r, nss, h => by
    cases d with
    | tuple xs =>
      unfold tupsD at h
      split at h
      · rename_i ns nss' h1 h2
        cases h
        rw [List.map_cons, ← tupsD_eq h2, intsD_eq h1]
      · cases h
    | _ => cases h
theorem tupsD_map : ∀ nss : List (List Int), tupsD (nss.map tupI) = some nss
  | [] => rfl
  | ns :: nss => by
    rw [List.map_cons]
    unfold tupsD
    rw [intsD_map, tupsD_map nss]
/-- rows of one length, of numbers that are not below 0, fewer than sixty-four -/
def tupsOk (nss : List (List Int)) : Bool := decide (nss.length < 64) && nss.all fun ns => ns.all (fun i => decide (0 ≤ i)) && match nss with
  | m :: _ => ns.length == m.length && decide (1 ≤ m.length)
  | [] => true
def topI (nss : List (List Int)) : Int := nss.foldr (fun ns b => ns.foldr (fun i b => max (i + 1) b) b) 1
theorem top_row : ∀ (ns : List Int) (b : Int), b ≤ ns.foldr (fun i b => max (i + 1) b) b ∧ ∀ i ∈ ns, i < ns.foldr (fun i b => max (i + 1) b) b
  | [], b => ⟨Int.le_refl _, fun i z => (List.not_mem_nil z).elim⟩
  | n :: ns, b => by
    obtain ⟨h1, h2⟩ := top_row ns b
    rw [List.foldr_cons]
    refine ⟨by omega, fun i hi => ?_⟩
    rcases List.mem_cons.mp hi with e | e
    · omega
    · have := h2 i e
      omega
theorem top_ok : ∀ (nss : List (List Int)), ∀ ns ∈ nss, ∀ i ∈ ns, i < topI nss
  | [], ns, h => (List.not_mem_nil h).elim
  | m :: nss, ns, h => fun i hi => by
    unfold topI
    rw [List.foldr_cons]
    obtain ⟨h1, h2⟩ := top_row m (topI nss)
    rcases List.mem_cons.mp h with e | e
    · subst e
      exact h2 i hi
    · have := top_ok nss ns e i hi
      exact Int.lt_of_lt_of_le this h1
theorem tups_facts {nss : List (List Int)} (h : tupsOk nss = true) : nss.length < 64 ∧ ∃ d, 1 ≤ d ∧ ∀ ns ∈ nss, ns.length = d ∧ TS.Bd (topI nss) ns := by
  unfold tupsOk at h
  simp only [Bool.and_eq_true, decide_eq_true_eq, List.all_eq_true] at h
  obtain ⟨h1, h2⟩ := h
  refine ⟨h1, ?_⟩
  cases nss with
  | nil => exact ⟨1, Nat.le_refl 1, fun ns z => (List.not_mem_nil z).elim⟩
  | cons m nss =>
    have hm := (h2 m (List.mem_cons_self ..)).2
    simp only [Bool.and_eq_true, beq_iff_eq, decide_eq_true_eq] at hm
    refine ⟨m.length, hm.2, fun ns hns => ?_⟩
    obtain ⟨a, b⟩ := h2 ns hns
    simp only [Bool.and_eq_true, beq_iff_eq, decide_eq_true_eq] at b
    exact ⟨b.1, fun i hi => ⟨a i hi, top_ok _ ns hns i hi⟩⟩
section
variable {K : PySem.W.Frag} {F : Hp}
theorem Rps.perm {vs vs' : List V} (h : vs'.Perm vs) : ∀ {ds : List PyData}, Rps K F vs ds → ∃ ds', Rps K F vs' ds' ∧ ds'.Perm ds := by
  induction h with
  | nil => exact fun r => ⟨_, r, .refl _⟩
  | cons x _ ih =>
    intro ds r
    cases r with
    | cons r t =>
      obtain ⟨ds', a, b⟩ := ih t
      exact ⟨_, .cons r a, b.cons _⟩
  | swap x y l =>
    intro ds r
    cases r with
    | cons r t =>
      cases t with
      | cons r' t => exact ⟨_, .cons r' (.cons r t), List.Perm.swap ..⟩
  | trans _ _ ih1 ih2 =>
    intro ds r
    obtain ⟨d1, a1, b1⟩ := ih2 r
    obtain ⟨d2, a2, b2⟩ := ih1 a1
    exact ⟨d2, a2, b2.trans b1⟩
theorem Rp.tupI {v : V} {ns : List Int} (h : Rp K F v (Fj.tupI ns)) : ∃ t, v = .ref t ∧ SqT K F t (ns.map V.int) := by
  cases h with
  | tup h r =>
    rw [r.nums] at h
    exact ⟨_, rfl, h⟩
/-- a perm of rows is rows -/
theorem perm_rows {nss : List (List Int)} {ds : List PyData} (h : ds.Perm (nss.map Fj.tupI)) : ∃ mss : List (List Int), ds = mss.map Fj.tupI ∧ mss.Perm nss := by
  generalize he : nss.map Fj.tupI = es at h
  induction h generalizing nss with
  | nil =>
    rw [List.map_eq_nil_iff] at he
    subst he
    exact ⟨[], rfl, .refl _⟩
  | cons x _ ih =>
    cases nss with
    | nil => cases he
    | cons n nss =>
      cases he
      obtain ⟨m, e, p⟩ := ih rfl
      exact ⟨n :: m, by rw [e]; rfl, p.cons n⟩
  | swap x y l =>
    match nss, he with
    | n :: k :: nss, he =>
      cases he
      exact ⟨k :: n :: nss, rfl, List.Perm.swap ..⟩
  | trans _ _ ih1 ih2 =>
    obtain ⟨m1, e1, p1⟩ := ih2 he
    obtain ⟨m2, e2, p2⟩ := ih1 e1.symm
    exact ⟨m2, e2, p2.trans p1⟩
theorem rps_pair {vs : List V} {nss : List (List Int)} (r : Rps K F vs (nss.map Fj.tupI)) {R : V → V → Prop} {S : List Int → List Int → Prop} (h : vs.Pairwise R) (hs : ∀ x y n m, Rp K F x (Fj.tupI n) → Rp K F y (Fj.tupI m) → n ∈ nss → m ∈ nss → R x y → S n m) : nss.Pairwise S := by
  induction nss generalizing vs with
  | nil => exact .nil
  | cons n nss ih =>
    cases r with
    | @cons v vs _ _ r t =>
      obtain ⟨h1, h2⟩ := List.pairwise_cons.mp h
      refine List.pairwise_cons.mpr ⟨fun m hm => ?_, ih t h2 fun x y a b ra rb ha hb z => hs x y a b ra rb (List.mem_cons_of_mem _ ha) (List.mem_cons_of_mem _ hb) z⟩
      obtain ⟨k, hk, e⟩ := List.getElem_of_mem hm
      have hd : (nss.map Fj.tupI)[k]? = some (Fj.tupI m) := by
        rw [List.getElem?_map, List.getElem?_eq_getElem hk, e]
        rfl
      obtain ⟨x, hx, rx⟩ := t.get hd
      exact hs v x n m r rx (List.mem_cons_self ..) (List.mem_cons_of_mem _ hm) (h1 x (List.mem_of_getElem? hx))
end
/-- sorted(pairs), any number of them -/
def gSortP : List PyData → Option Ent
  | [.list ds] => match tupsD ds with
    | some nss => if (nss.all fun ns => ns.length == 2) = true then some (.own true (.lst ((isort HT.lexLt nss).map tupI))) else none
    | none => none
  | _ => none
def rSortQ (K : PySem.W.Frag) : List V → Hp → VK → Prop := fun vs H Q => ∃ (a : Addr) (xs : List V), vs = [V.ref a] ∧ SqL K H a xs ∧ (∀ x ∈ xs, ∃ i j, TupI K H x [i, j]) ∧
  ∀ (ys : List V) (p : Addr), ys.Perm xs → ys.Pairwise (fun x y => ∀ n m, TupI K H x n → TupI K H y m → HT.lexLt m n = false) → H p = none → Q (.ref p) (upd H p (.lst ys))
def kvP (h : Heap) (v : Value) : Int × Int := match TS.intsOf h v with
  | [i, j] => (i, j)
  | _ => (0, 0)
theorem kvP_of {h : Heap} {v : Value} {i j : Int} (e : TS.intsOf h v = [i, j]) : kvP h v = (i, j) := by
  unfold kvP
  rw [e]
theorem lexB_lt {i j a b : Int} : SrtO.lexB (i, j) (a, b) = HT.lexLt [i, j] [a, b] := by
  rw [Bool.eq_iff_iff, SrtO.lexB_iff]
  simp only [HT.lexLt]
  repeat' split
  all_goals simp only [decide_eq_true_eq, Bool.false_eq_true, iff_false]
  all_goals omega
theorem cr_sortQ {X : Cx} : CallR X (.builtin "sorted") (rSortQ X.K) := by
  intro pins s σ H vs us Q I r h
  obtain ⟨a, xs, rfl, hs, hx, q⟩ := h
  obtain ⟨its, rv, hl, hz⟩ := I.list hs
  rw [Vals.ref1 r]
  obtain ⟨e1, e2⟩ := bkV_refs rv fun x m => by
    obtain ⟨i, j, t, e, _⟩ := hx x m
    exact ⟨t, e⟩
  refine SrtO.sorted_pairsO (k := kvP s.heap) hl.isList (by rw [← rv.length]; exact hz) (fun v hv => ?_) fun h' d out h1 h2 kp hd hn => ?_
  · obtain ⟨t, rfl⟩ := e2 v hv
    have hm : V.ref t ∈ xs := by
      rw [e1]
      exact List.mem_map.mpr ⟨_, hv, rfl⟩
    obtain ⟨i, j, t', e, ht⟩ := hx _ hm
    cases e
    rw [kvP_of (tupI_raw I ht).ints]
    obtain ⟨its2, rv2, ⟨o, ho, hc, n, hd⟩, _⟩ := I.tuple ht
    obtain ⟨u1, u2, rfl, ri, rj⟩ := vals2 rv2
    obtain ⟨t1, rfl⟩ := ri
    obtain ⟨t2, rfl⟩ := rj
    exact ⟨t, o, t1, t2, n, rfl, ho, hc, hd⟩
  · have h3 : ∀ u ∈ out, ∃ a, u = Value.ref a := fun u hu => e2 u (h2.perm.mem_iff.mp hu)
    obtain ⟨n, hn⟩ := hn
    have hp : (out.map bkV).Perm xs := by
      rw [e1]
      exact h2.perm.map bkV
    have hlen : (out.map bkV).length ≤ sizeLine := by
      rw [hp.length_eq]
      exact hz
    refine ⟨.ref d, upd H d (.lst (out.map bkV)), I.laid (t' := s.toks) kp hd ⟨hlen, out, n, bkV_vals h3, hn⟩, rfl, q _ d hp ?_ (I.hok.fresh hd)⟩
    rw [List.pairwise_map]
    refine List.Pairwise.imp_of_mem (fun {u v} hu hv huv n m hn hm => ?_) h1
    obtain ⟨t, et, ht⟩ := hn
    obtain ⟨t', et', ht'⟩ := hm
    have eu := bkV_ref et
    have ev := bkV_ref et'
    subst eu ev
    have hmu : V.ref t ∈ xs := hp.mem_iff.mp (List.mem_map.mpr ⟨_, hu, et⟩)
    have hmv : V.ref t' ∈ xs := hp.mem_iff.mp (List.mem_map.mpr ⟨_, hv, et'⟩)
    obtain ⟨i, j, s1, e, hs1⟩ := hx _ hmu
    cases e
    obtain ⟨i', j', s2, e, hs2⟩ := hx _ hmv
    cases e
    have k1 := (tupI_raw I hs1).ints
    have k2 := (tupI_raw I hs2).ints
    have k3 := (tupI_raw I ht).ints
    have k4 := (tupI_raw I ht').ints
    have en : n = [i, j] := k3.symm.trans k1
    have em : m = [i', j'] := k4.symm.trans k2
    have huv : SrtO.lexB (kvP s.heap (.ref t')) (kvP s.heap (.ref t)) = false := huv
    rw [kvP_of k1, kvP_of k2] at huv
    rw [en, em, ← lexB_lt]
    exact huv
/-- sorted(rows) -/
def gSortT : List PyData → Option Ent
  | [.list ds] => match tupsD ds with
    | some nss => if tupsOk nss = true then some (.own true (.lst ((isort HT.lexLt nss).map tupI))) else none
    | none => none
  | _ => none
/-- sorted(numbers) -/
def gSortI : List PyData → Option Ent
  | [.list ds] => (intsD ds).map fun ns => .own true (.lst ((isort (fun i j => decide (i < j)) ns).map .int))
  | _ => none
def gSorted (ds : List PyData) : Option Ent := (gSortI ds).or ((gSortT ds).or (gSortP ds))
theorem CallJ.or {Y : Fam} {f : Value} {g g' : List PyData → Option Ent} (h : CallJ Y f g) (h' : CallJ Y f g') : CallJ Y f (fun ds => (g ds).or (g' ds)) := by
  obtain ⟨r, o, s⟩ := h
  obtain ⟨r', o', s'⟩ := h'
  refine ⟨_, fun j => CallR.or (o j) (o' j), fun c σ ρ T H vs ds z Q hl re e q => ?_⟩
  cases hg : g ds with
  | some w =>
    simp only [hg, Option.or] at e
    cases e
    exact .inl (s c σ ρ T H vs ds _ Q hl re hg q)
  | none =>
    simp only [hg, Option.or] at e
    exact .inr (s' c σ ρ T H vs ds z Q hl re e q)
section
variable {Y : Fam}
theorem ord_int : Ord (fun i j : Int => decide (i < j)) := ⟨fun x y h => decide_eq_false (by have := of_decide_eq_true h; omega), fun x y z h1 h2 => decide_eq_false (by have := of_decide_eq_false h1; have := of_decide_eq_false h2; omega)⟩
theorem c_sortI : CallJ Y (.builtin "sorted") gSortI := by
  refine ⟨rSortedI Y.K, fun j => by rw [← Y.hK j]; exact cr_sortedI, fun c σ ρ T H vs ds z Q hl r e q => ?_⟩
  unfold gSortI at e
  split at e
  · obtain ⟨bs, hb, rfl⟩ := Option.map_eq_some_iff.mp e
    have := intsD_eq hb
    subst this
    obtain ⟨v, rfl⟩ := len1 hl
    obtain ⟨F, fp, f⟩ := r
    have f : RelF Y.K c σ ρ ((v, .val (.list _)) :: T) H F fp := f
    obtain ⟨p, us, rfl, h1, h2⟩ := f.top.lstAt
    have := h2.nums
    subst this
    refine ⟨p, bs, rfl, .inl (.inl (f.fh _ _ h1)), fun ns' p' pm pw hp => ?_⟩
    have e : ns' = isort (fun i j => decide (i < j)) bs := by
      refine uniq_sorted (r := fun a b : Int => a ≤ b) (fun a b h1 h2 => Int.le_antisymm h1 h2) (pm.trans (isort_perm _ bs).symm) pw ?_
      exact (isort_sorted ord_int bs).imp fun {a b} h => by
        have := of_decide_eq_false h
        omega
    rw [e]
    exact q _ _ (f.popV.lstNew hp rps_ints)
  · cases e
theorem c_sortT : CallJ Y (.builtin "sorted") gSortT := by
  refine ⟨fun vs H Q => ∃ (d : Nat) (B : Int), 1 ≤ d ∧ rSortU Y.K d B vs H Q, fun j => ?_, fun c σ ρ T H vs ds z Q hl r e q => ?_⟩
  · intro pins s σ H xs us Q I rs ⟨d, B, hd, h⟩
    have := cr_sortT (X := Y.X j) (B := B) hd
    rw [Y.hK j] at this
    exact this pins s σ H xs us Q I rs h
  · unfold gSortT at e
    split at e
    · split at e
      · rename_i nss hn
        split at e
        · rename_i hok
          cases e
          have := tupsD_eq hn
          subst this
          obtain ⟨v, rfl⟩ := len1 hl
          obtain ⟨F, fp, f⟩ := r
          have f : RelF Y.K c σ ρ ((v, .val (.list (nss.map tupI))) :: T) H F fp := f
          obtain ⟨p, us, rfl, h1, h2⟩ := f.top.lstAt
          obtain ⟨hlen, d, hd, hrow⟩ := tups_facts hok
          have hul : us.length = nss.length := by rw [h2.length, List.length_map]
          refine ⟨d, topI nss, hd, p, us, rfl, .inl (.inl (f.fh _ _ h1)), by omega, fun x hx => ?_, fun ys p' pm pw hp => ?_⟩
          · obtain ⟨k, hk, e⟩ := List.getElem_of_mem hx
            obtain ⟨ns, hns⟩ : ∃ ns, nss[k]? = some ns := ⟨nss[k]'(by omega), List.getElem?_eq_getElem _⟩
            have hd' : (nss.map tupI)[k]? = some (tupI ns) := by rw [List.getElem?_map, hns]; rfl
            obtain ⟨x', hx', rx⟩ := h2.get hd'
            rw [List.getElem?_eq_getElem hk, e] at hx'
            cases hx'
            obtain ⟨t, rfl, ht⟩ := rx.tupI
            have hm := List.mem_of_getElem? hns
            exact ⟨ns, ⟨t, rfl, same_tup f.fh ht⟩, (hrow ns hm).1, (hrow ns hm).2⟩
          · obtain ⟨ds', r', pm'⟩ := Rps.perm pm h2
            obtain ⟨mss, rfl, pm2⟩ := perm_rows pm'
            have mem : ∀ m ∈ mss, m.length = d ∧ TS.Bd (topI nss) m := fun m hm => hrow m (pm2.mem_iff.mp hm)
            have srt : mss.Pairwise (fun a b => HT.lexLt b a = false) := rps_pair r' pw fun x y n m rx ry hn hm h => by
              obtain ⟨t, rfl, ht⟩ := rx.tupI
              obtain ⟨t', rfl, ht'⟩ := ry.tupI
              exact code_lexLe ((mem n hn).1.trans (mem m hm).1.symm) (mem n hn).2 (mem m hm).2 (h n m ⟨t, rfl, same_tup f.fh ht⟩ ⟨t', rfl, same_tup f.fh ht'⟩)
            have e : mss = isort HT.lexLt nss := uniq_sorted (fun a b h1 h2 => lex_tot h2 h1) (pm2.trans (isort_perm _ nss).symm) srt (isort_sorted ord_lex nss)
            rw [e] at r'
            exact q _ _ (f.popV.lstNew hp r')
        · cases e
      · cases e
    · cases e
theorem c_sortP : CallJ Y (.builtin "sorted") gSortP := by
  refine ⟨rSortQ Y.K, fun j => by rw [← Y.hK j]; exact cr_sortQ, fun c σ ρ T H vs ds z Q hl r e q => ?_⟩
  unfold gSortP at e
  split at e
  · split at e
    · rename_i nss hn
      split at e
      · rename_i hok
        cases e
        have := tupsD_eq hn
        subst this
        obtain ⟨v, rfl⟩ := len1 hl
        obtain ⟨F, fp, f⟩ := r
        have f : RelF Y.K c σ ρ ((v, .val (.list (nss.map tupI))) :: T) H F fp := f
        obtain ⟨p, us, rfl, h1, h2⟩ := f.top.lstAt
        have hul : us.length = nss.length := by rw [h2.length, List.length_map]
        refine ⟨p, us, rfl, .inl (.inl (f.fh _ _ h1)), fun x hx => ?_, fun ys p' pm pw hp => ?_⟩
        · obtain ⟨k, hk, e⟩ := List.getElem_of_mem hx
          obtain ⟨ns, hns⟩ : ∃ ns, nss[k]? = some ns := ⟨nss[k]'(by omega), List.getElem?_eq_getElem _⟩
          have hd' : (nss.map tupI)[k]? = some (tupI ns) := by rw [List.getElem?_map, hns]; rfl
          obtain ⟨x', hx', rx⟩ := h2.get hd'
          rw [List.getElem?_eq_getElem hk, e] at hx'
          cases hx'
          obtain ⟨t, rfl, ht⟩ := rx.tupI
          have hm := List.mem_of_getElem? hns
          have h2l : ns.length = 2 := by
            have := List.all_eq_true.mp hok ns hm
            exact eq_of_beq this
          match ns, h2l, ht with
          | [i, j], _, ht => exact ⟨i, j, t, rfl, same_tup f.fh ht⟩
        · obtain ⟨ds', r', pm'⟩ := Rps.perm pm h2
          obtain ⟨mss, rfl, pm2⟩ := perm_rows pm'
          have srt : mss.Pairwise (fun a b => HT.lexLt b a = false) := rps_pair r' pw fun x y n m rx ry hn hm h => by
            obtain ⟨t, rfl, ht⟩ := rx.tupI
            obtain ⟨t', rfl, ht'⟩ := ry.tupI
            exact h n m ⟨t, rfl, same_tup f.fh ht⟩ ⟨t', rfl, same_tup f.fh ht'⟩
          have e : mss = isort HT.lexLt nss := uniq_sorted (fun a b h1 h2 => lex_tot h2 h1) (pm2.trans (isort_perm _ nss).symm) srt (isort_sorted ord_lex nss)
          rw [e] at r'
          exact q _ _ (f.popV.lstNew hp r')
      · cases e
    · cases e
  · cases e
theorem rps_ks {K : PySem.W.Frag} {F : Hp} : ∀ {us : List V} {nss : List (List Int)}, Rps K F us (nss.map tupI) → ∃ ks : List (Addr × List Int), us = ks.map (fun p => V.ref p.1) ∧ nss = ks.map (·.2)
  | _, [], h => by
    cases h
    exact ⟨[], rfl, rfl⟩
  | _, n :: nss, h => by
    cases h with
    | cons r t =>
      obtain ⟨ks, e1, e2⟩ := rps_ks t
      obtain ⟨a, rfl, _⟩ := r.tupI
      exact ⟨(a, n) :: ks, by rw [e1]; rfl, by rw [e2]; rfl⟩
theorem rps_at {K : PySem.W.Frag} {F : Hp} : ∀ {ks : List (Addr × List Int)}, Rps K F (ks.map fun p => V.ref p.1) (ks.map fun p => tupI p.2) → ∀ p ∈ ks, Rp K F (.ref p.1) (tupI p.2)
  | [], _, p, hp => (List.not_mem_nil hp).elim
  | k :: ks, h, p, hp => by
    cases h with
    | cons r t =>
      rcases List.mem_cons.mp hp with e | e
      · rw [e]
        exact r
      · exact rps_at t p e
theorem rps_of {K : PySem.W.Frag} {F : Hp} : ∀ {L : List (Addr × List Int)}, (∀ p ∈ L, Rp K F (.ref p.1) (tupI p.2)) → Rps K F (L.map fun p => V.ref p.1) (L.map fun p => tupI p.2)
  | [], _ => .nil
  | k :: L, h => .cons (h k (List.mem_cons_self ..)) (rps_of fun p hp => h p (List.mem_cons_of_mem _ hp))
/-- sorted(set(rows)) -/
def mSS (m : MV) : MO := fun ρ => match m ρ with
  | some (.list ds, ρ) => match tupsD ds with
    | some nss => if tupsOk nss = true then some (.own true (.lst ((isort HT.lexLt (dedup nss)).map tupI)), ρ) else none
    | none => none
  | _ => none
theorem j_sortSet {e : Expr} {m : MV} {p p2 pos pos2 : Pos} (h : JV Y e m) (hm : Y.mg "sorted" = none) (hm2 : Y.mg "set" = none) (hg : ∀ j, Gl (Y.X j) "sorted" := by intro _; rfl) (hg2 : ∀ j, Gl (Y.X j) "set" := by intro _; rfl)
    (hs : ∀ j, starEach [e] (Y.X j).env = (false, eval e (Y.X j).env) :: starEach [] (Y.X j).env := by intro _; rfl) (hpl : ∀ j, (backTo pos2 (starEach [] (Y.X j).env)).any (·.1) = false := by intro _; rfl)
    (hs1 : ∀ j, starEach [.Call (.Name "set" p2) [e] [] pos2] (Y.X j).env = (false, eval (.Call (.Name "set" p2) [e] [] pos2) (Y.X j).env) :: starEach [] (Y.X j).env := by intro _; rfl) (hpl1 : ∀ j, (backTo pos (starEach [] (Y.X j).env)).any (·.1) = false := by intro _; rfl) :
    JO Y (.Call (.Name "sorted" p) [.Call (.Name "set" p2) [e] [] pos2] [] pos) (mSS m) := by
  obtain ⟨te, pe, se⟩ := h
  refine ⟨tCB (rSortedT Y.K Y.P Y.w) (tCons (tCB (rSetOfT Y.K Y.P Y.w) (tCons te tNil)) tNil), fun j => ?_, fun c σ ρ T H Q r q => ?_⟩
  · rw [← Y.hK j, ← Y.hP j, ← Y.hw j]
    exact pe_callB (cr_sortedT (Y.calm j)) (hg j) (by rw [Y.hmg j]; exact hm) (by decide +kernel) (pa_cons (pe_callTy (cr_setOfT (Y.calm j) (Y.room j).units) (hg2 j) (by rw [Y.hmg j]; exact hm2) (by decide +kernel) (pa_cons (pe j) pa_nil (hs j)) (by decide) (by decide) (hs j) (hpl j)) pa_nil (hs1 j)) (by decide) (by decide) (hs1 j) (hpl1 j)
  · refine se c σ ρ T H _ r ?_
    unfold mSS at q
    cases hm : m ρ with
    | none =>
      rw [hm] at q
      exact q
    | some z =>
      obtain ⟨d, ρ1⟩ := z
      rw [hm] at q
      cases d with
      | list ds =>
        simp only at q
        split at q
        · rename_i nss hn
          split at q
          · rename_i hok
            have := tupsD_eq hn
            subst this
            intro v H1 r1
            obtain ⟨hlen, d, hd, hrow⟩ := tups_facts hok
            obtain ⟨F, fp, f⟩ := id r1
            obtain ⟨l, us, rfl, h1, h2⟩ := f.top.lstAt
            obtain ⟨ks, rfl, rfl⟩ := rps_ks h2
            rw [List.map_map] at h2
            rw [List.length_map] at hlen
            refine ⟨l, ks, rfl, .inl (.inl (f.fh _ _ h1)), fun p hp => ?_, hlen, fun a L ha hsub hall => ?_⟩
            · obtain ⟨t, e, ht⟩ := (rps_at h2 p hp).tupI
              cases e
              exact same_tup f.fh ht
            · have r2 := r1.fresh ha (SetTO Y.P Y.w a L)
              obtain ⟨F', fp', f'⟩ := id r2
              obtain ⟨l', us', e, h1', h2'⟩ := f'.top.lstAt
              cases e
              have eus : us' = ks.map fun p => V.ref p.1 := by
                have z1 := f'.fh _ _ h1'
                rw [upd_ne (ne_of_none (f.fh _ _ h1) ha), f.fh _ _ h1] at z1
                cases z1
                rfl
              subst eus
              rw [List.map_map] at h2'
              have rp := rps_at h2'
              have rowL : ∀ p ∈ L, p.2.length = d ∧ TS.Bd (topI (ks.map (·.2))) p.2 := fun p hp => hrow p.2 (List.mem_map.mpr ⟨p, hsub p hp, rfl⟩)
              refine ⟨a, L, d, topI (ks.map (·.2)), rfl, upd_same, fun p hp => ?_, hd, rowL, fun L' p' pm nd _ pw hp' => ?_⟩
              · obtain ⟨t, e, ht⟩ := (rp p (hsub p hp)).tupI
                cases e
                exact same_tup f'.fh ht
              · have memL : ∀ p ∈ L', p ∈ L := fun p hp => pm.mem_iff.mp hp
                have e : L'.map (·.2) = isort HT.lexLt (dedup (ks.map (·.2))) := by
                  have irr : ∀ a : List Int, ¬ HT.lexLt a a = true := fun a z => by rw [lex_irr] at z; cases z
                  have asy : ∀ a b : List Int, HT.lexLt a b = true → ¬ HT.lexLt b a = true := fun a b h z => by rw [NtL.lex_asym a b h] at z; cases z
                  refine uniq_strict (r := fun a b : List Int => HT.lexLt a b = true) irr asy (fun x => ?_) ?_ ?_
                  · rw [(isort_perm HT.lexLt _).mem_iff, mem_dedup, (pm.map (·.2)).mem_iff]
                    constructor
                    · intro hx
                      obtain ⟨p, hp, e⟩ := List.mem_map.mp hx
                      exact List.mem_map.mpr ⟨p, hsub p hp, e⟩
                    · intro hx
                      obtain ⟨p, hp, e⟩ := List.mem_map.mp hx
                      rw [← e]
                      exact hall p hp
                  · have : (L'.map (·.2)).Pairwise (fun a b => HT.lexLt b a = false) := List.pairwise_map.mpr (pw.imp_of_mem fun {a b} ha hb h => code_lexLe ((rowL a (memL a ha)).1.trans (rowL b (memL b hb)).1.symm) (rowL a (memL a ha)).2 (rowL b (memL b hb)).2 h)
                    exact (this.and nd).imp fun {a b} ⟨h1, h2⟩ => Bool.of_not_eq_false fun z => h2 (lex_tot z h1)
                  · have nd2 : (isort HT.lexLt (dedup (ks.map (·.2)))).Nodup := (isort_perm _ _).nodup_iff.mpr (nodup_dedup _)
                    exact ((isort_sorted ord_lex _).and nd2).imp fun {a b} ⟨h1, h2⟩ => Bool.of_not_eq_false fun z => h2 (lex_tot z h1)
                have rL := rps_of (L := L') fun p hp => rp p (hsub p (memL p hp))
                have eL : (L'.map fun p => tupI p.2) = (isort HT.lexLt (dedup (ks.map (·.2)))).map tupI := by
                  rw [← e, List.map_map]
                  rfl
                rw [eL] at rL
                exact q _ _ (f'.popV.lstNew hp' rL)
          · exact q.elim
        · exact q.elim
      | _ => exact q.elim
theorem c_sorted : CallJ Y (.builtin "sorted") gSorted := c_sortI.or (c_sortT.or c_sortP)
end
end Fj

set_option Elab.async false
set_option linter.all false
set_option maxRecDepth 100000
set_option maxHeartbeats 4000000
set_option autoImplicit false
/-! A head that tells of tuples bound at the top, too. -/
namespace Fj
open PySem PySem.Spec PyProof.Rows L2

mutual
def mtB (K : PySem.W.Frag) : Value → PyData → Bool
  | u, .none => (match u with
    | .none => true
    | _ => false)
  | u, .bool b => (match u with
    | .bool c => b == c
    | _ => false)
  | u, .int i => (match u with
    | .int j _ => decide (i = j)
    | _ => false)
  | u, .str x => (match u with
    | .str y _ => decide (x = y)
    | _ => false)
  | u, .tuple ds => (match u with
    | .ref a => (match K.lookup a with
      | some ⟨.type c, _, .seq its _, _⟩ => decide (c = "tuple") && (decide (its.size ≤ sizeLine) && mtAll K its.toList ds)
      | _ => false)
    | _ => false)
  | _, .list _ => false
  | _, .dict _ => false
def mtAll (K : PySem.W.Frag) : List Value → List PyData → Bool
  | us, [] => us.isEmpty
  | us, d :: ds => (match us with
    | u :: us => mtB K u d && mtAll K us ds
    | [] => false)
end
mutual
theorem mtB_ok {K : PySem.W.Frag} : ∀ {d : PyData} {u : Value}, mtB K u d = true → ∃ v, RelV v u ∧ ∀ F, Rp K F v d
  | .none, u, h => by
    unfold mtB at h
    split at h
    · exact ⟨.non, rfl, fun _ => .non⟩
    · cases h
  | .bool b, u, h => by
    unfold mtB at h
    split at h
    · have := eq_of_beq h
      subst this
      exact ⟨.bl b, rfl, fun _ => .bl b⟩
    · cases h
  | .int i, u, h => by
    unfold mtB at h
    split at h
    · have := of_decide_eq_true h
      subst this
      exact ⟨.int i, ⟨_, rfl⟩, fun _ => .int i⟩
    · cases h
  | .str x, u, h => by
    unfold mtB at h
    split at h
    · have := of_decide_eq_true h
      subst this
      exact ⟨.str x, ⟨_, rfl⟩, fun _ => .str x⟩
    · cases h
  | .tuple ds, u, h => by
    unfold mtB at h
    split at h
    · rename_i a
      split at h
      · rename_i c od its n osl hq
        obtain ⟨h1, h2⟩ := Bool.and_eq_true_iff.mp h
        obtain ⟨h3, h4⟩ := Bool.and_eq_true_iff.mp h2
        obtain ⟨xs, hv, hr⟩ := mtAll_ok h4
        exact ⟨.ref a, rfl, fun F => .tup (.inr ⟨_, its, n, hq, congrArg Value.type (of_decide_eq_true h1), rfl, of_decide_eq_true h3, hv⟩) (hr F)⟩
      · cases h
    · cases h
  | .list ds, u, h => by
    unfold mtB at h
    cases h
  | .dict ds, u, h => by
    unfold mtB at h
    cases h
theorem mtAll_ok {K : PySem.W.Frag} : ∀ {ds : List PyData} {us : List Value}, mtAll K us ds = true → ∃ xs, Vals xs us ∧ ∀ F, Rps K F xs ds
  | [], us, h => by
    unfold mtAll at h
    have : us = [] := List.isEmpty_iff.mp h
    subst this
    exact ⟨[], .nil, fun _ => .nil⟩
  | d :: ds, us, h => by
    unfold mtAll at h
    split at h
    · obtain ⟨h1, h2⟩ := Bool.and_eq_true_iff.mp h
      obtain ⟨v, a, b⟩ := mtB_ok h1
      obtain ⟨xs, a2, b2⟩ := mtAll_ok h2
      exact ⟨v :: xs, .cons a a2, fun F => .cons (b F) (b2 F)⟩
    · cases h
end
def cstB (K : PySem.W.Frag) (p : Str × PyData) : Bool := match PySem.W.nsIn K mainGlobals p.1 with
  | some (some u) => mtB K u p.2
  | _ => false
theorem cst_ok {K : PySem.W.Frag} {h : Heap} {mg : Str → Option Value} (X : K.In h) (G : h.Ns mainGlobals mg) {p : Str × PyData} (c : cstB K p = true) : ∃ v u, mg p.1 = some u ∧ RelV v u ∧ ∀ F, Rp K F v p.2 := by
  unfold cstB at c
  split at c
  · rename_i u hu
    obtain ⟨v, a, b⟩ := mtB_ok c
    exact ⟨v, u, PySem.W.mg_of X G hu, a, b⟩
  · cases c
abbrev AlC : Type := He.AlD × Bool
def obsC (fa : List He.Fa) (fn : List He.DefD) (cs : List (Str × PyData)) (K : PySem.W.Frag) : AlC := (He.obsD fa fn K, cs.all (cstB K))
def SaysC (fa : List He.Fa) (fn : List He.DefD) (cs : List (Str × PyData)) (K : PySem.W.Frag) : Prop := obsC fa fn cs K = (He.valD fn, true)
theorem SaysC.d {fa : List He.Fa} {fn : List He.DefD} {cs : List (Str × PyData)} {K : PySem.W.Frag} (c : SaysC fa fn cs K) : He.SaysD fa fn K := congrArg Prod.fst c
theorem SaysC.cst {fa : List He.Fa} {fn : List He.DefD} {cs : List (Str × PyData)} {K : PySem.W.Frag} (c : SaysC fa fn cs K) (i : Nat) {p : Str × PyData} (h : cs[i]? = some p := by rfl) : cstB K p = true := by
  have z : cs.all (cstB K) = true := congrArg Prod.snd c
  exact List.all_eq_true.mp z p (List.mem_of_getElem? h)
def obsCG (n : Nat) (fa : List He.Fa) (fn : List He.DefD) (cs : List (Str × PyData)) (g : Addr → Option Obj) : AlC := obsC fa fn cs (He.frG g (He.asD g n))
def hookC (n : Nat) (fa : List He.Fa) (fn : List He.DefD) (cs : List (Str × PyData)) : PySem.W.Hook where
  α := AlC
  obs := fun s => obsCG n fa fn cs s.heap.get?
  val := fun _ => (He.valD fn, true)
  says := fun _ h => ∃ K : PySem.W.Frag, K.In h ∧ SaysC fa fn cs K
  of := fun _ _ e => ⟨_, He.frG_in, e⟩
  keeps := fun _ _ _ ⟨K, hK, c⟩ k => ⟨K, PySem.W.Frag.In.keeps hK k, c⟩
theorem obsCG_eq {n : Nat} {fa : List He.Fa} {fn : List He.DefD} {cs : List (Str × PyData)} {g : Addr → Option Obj} {s : Shared} (h : ∀ a, g a = s.heap.get? a) : obsCG n fa fn cs g = (hookC n fa fn cs).obs s := by
  have e : g = s.heap.get? := funext h
  rw [e] <;> rfl
theorem j_gtup {Y : Fam} {x : Str} {d : PyData} {pos : Pos} (h : ∃ v u, Y.mg x = some u ∧ RelV v u ∧ ∀ F, Rp Y.K F v d) (hg : ∀ j, Gl (Y.X j) x := by intro _; rfl) (hd : (x == ("__debug__" : Str)) = false := by decide) : JV Y (.Name x pos) (mC d) :=
  let ⟨_, _, a, b, c⟩ := h
  j_glob a b c hg hd
/-- isinstance(e, (S, T)) -/
def mIsi2 (S T : String) (m : MV) : MV := fun ρ => match m ρ with
  | none => none
  | some (d, ρ) => match kitB (tyN d) S with
    | some true => some (.bool true, ρ)
    | some false => (kitB (tyN d) T).map fun b => (.bool b, ρ)
    | none => none
theorem j_isi2 {Y : Fam} {e : Expr} {pos : Pos} {m : MV} {x y : Str} {S T : String} {p p2 p3 p4 : Pos} {k0 : Nat} (h : JV Y e m) (hi : Y.mg "isinstance" = none) (hm : Y.mg x = none) (hm2 : Y.mg y = none) (hv : bootBuiltins x = some (.type S) := by decide +kernel) (hv2 : bootBuiltins y = some (.type T) := by decide +kernel)
    (hg : ∀ j, Gl (Y.X j) "isinstance" := by intro _; rfl) (hg2 : ∀ j, Gl (Y.X j) x := by intro _; rfl) (hg3 : ∀ j, Gl (Y.X j) y := by intro _; rfl) (hn : x ≠ "__name__" := by decide) (hdb : (x == ("__debug__" : Str)) = false := by decide) (hn2 : y ≠ "__name__" := by decide) (hdb2 : (y == ("__debug__" : Str)) = false := by decide)
    (hs1 : ∀ j, starEach [e, .Tuple [.Name x p2, .Name y p3] k0 p4] (Y.X j).env = (false, eval e (Y.X j).env) :: starEach [.Tuple [.Name x p2, .Name y p3] k0 p4] (Y.X j).env := by intro _; rfl)
    (hs2 : ∀ j, starEach [.Tuple [.Name x p2, .Name y p3] k0 p4] (Y.X j).env = (false, eval (.Tuple [.Name x p2, .Name y p3] k0 p4) (Y.X j).env) :: starEach [] (Y.X j).env := by intro _; rfl)
    (hs3 : ∀ j, starEach [.Name x p2, .Name y p3] (Y.X j).env = (false, eval (.Name x p2) (Y.X j).env) :: starEach [.Name y p3] (Y.X j).env := by intro _; rfl) (hs4 : ∀ j, starEach [.Name y p3] (Y.X j).env = (false, eval (.Name y p3) (Y.X j).env) :: starEach [] (Y.X j).env := by intro _; rfl)
    (hpl : ∀ j, (backTo pos (starEach [.Tuple [.Name x p2, .Name y p3] k0 p4] (Y.X j).env)).any (·.1) = false := by intro _; rfl) : JV Y (.Call (.Name "isinstance" p) [e, .Tuple [.Name x p2, .Name y p3] k0 p4] [] pos) (mIsi2 S T m) := by
  obtain ⟨t, pa, s⟩ := h
  refine ⟨tCB (rIsiT Y.K) (tCons t (tCons (tTup (tCons (tC (.ty S)) (tCons (tC (.ty T)) tNil))) tNil)), fun j => by
    rw [← Y.hK j]
    exact pe_callB call_isiT (hg j) (by rw [Y.hmg j]; exact hi) (by decide +kernel) (pa_cons (pa j) (pa_cons (pe_tup (pa_cons (pe_bltn (hg2 j) (by rw [Y.hmg j]; exact hm) hv rfl hn hdb) (pa_cons (pe_bltn (hg3 j) (by rw [Y.hmg j]; exact hm2) hv2 rfl hn2 hdb2) pa_nil (hs4 j)) (hs3 j))) pa_nil (hs2 j)) (hs1 j)) (by decide) (by decide) (hs1 j) (hpl j), fun c σ ρ T' H Q re q => s c σ ρ T' H _ re ?_⟩
  unfold mIsi2 at q
  cases hm : m ρ with
  | none =>
    rw [hm] at q
    exact q
  | some z =>
    obtain ⟨d, ρ1⟩ := z
    rw [hm] at q
    simp only at q
    intro v H1 r1
    refine ⟨sz5 (by show 2 ≤ 100000; omega), fun p hp => ?_⟩
    have r2 := r1.fresh hp (.tup [.ty S, .ty T])
    have cls : Paired ClsV [V.ty S, V.ty T] [Value.type S, Value.type T] := .cons (.ty S) (.cons (.ty T) .nil)
    have go : ∀ b, PySem.W.kitAny Y.K (.type (tyN d)) [.type S, .type T] = some b → (∀ v H', Rel Y.K c σ ρ1 ((v, .val (.bool b)) :: T') H' → Q v H') → ∃ (x : V) (tp : Addr) (cs : List V) (t : Value) (us : List Value) (b : Bool), [v, V.ref p] = [x, .ref tp] ∧ upd H1 p (.tup [.ty S, .ty T]) tp = some (.tup cs) ∧ Paired ClsV cs us ∧ TyX Y.K (upd H1 p (.tup [.ty S, .ty T])) x t ∧ PySem.W.kitAny Y.K t us = some b ∧ Q (.bl b) (upd H1 p (.tup [.ty S, .ty T])) :=
      fun b hb q => ⟨v, p, _, _, _, b, rfl, upd_same, cls, r2.top.ty, hb, q _ _ (r2.pop.pushB b)⟩
    cases hk : kitB (tyN d) S with
    | none =>
      rw [hk] at q
      exact q.elim
    | some a =>
      rw [hk] at q
      cases a with
      | true => exact go true (kitAny_cons (kit_ty hk) (fun z => by cases z) fun _ => rfl) q
      | false =>
        simp only at q
        cases hk2 : kitB (tyN d) T with
        | none =>
          rw [hk2] at q
          exact q.elim
        | some b =>
          rw [hk2] at q
          refine go b (kitAny_cons (kit_ty hk) (fun _ => kitAny_cons (kit_ty hk2) (fun hb => ?_) fun hb => hb) fun z => by cases z) q
          rw [hb]
          exact kitAny_nil
end Fj

set_option Elab.async false
set_option linter.all false
set_option maxRecDepth 100000
set_option maxHeartbeats 4000000
set_option autoImplicit false
/-! pop(i) of an own list; list(range(n)); {}. -/
namespace Fj
open PySem PySem.Spec PyProof.Rows L2
section
variable {K : PySem.W.Frag} {c : Ct} {σ : L2.St} {ρ : En} {T : Tm} {H : Hp} {v : V} {F : Hp}
theorem Rps.del {vs : List V} {ds : List PyData} (h : Rps K F vs ds) : ∀ k : Nat, Rps K F (vs.eraseIdx k) (ds.eraseIdx k) := by
  induction ds generalizing vs with
  | nil =>
    intro k
    cases h
    exact .nil
  | cons d ds ih =>
    intro k
    cases h with
    | cons r t =>
      cases k with
      | zero => exact t
      | succ k => exact .cons r (ih t k)
/-- an item of the own list on top, laid beside it -/
theorem Rel.beside {fr : Bool} {ds : List PyData} {k : Nat} {d : PyData} (r : Rel K c σ ρ ((v, .own fr (.lst ds)) :: T) H) (hk : ds[k]? = some d) : ∃ a vs y, v = .ref a ∧ H a = some (.lst vs) ∧ vs[k]? = some y ∧ Rel K c σ ρ ((v, .own fr (.lst ds)) :: (y, .val d) :: T) H := by
  obtain ⟨F, fp, r⟩ := r
  obtain ⟨fc, fq, e, q, r1⟩ := r.pop
  subst e
  obtain ⟨a, vs, e1, h1, h2⟩ : ∃ a vs, v = .ref a ∧ H a = some (.lst vs) ∧ Rps K F vs ds := by
    cases q with
    | own rc hf =>
      cases rc with
      | @lst a vs _ ha rs => exact ⟨a, vs, rfl, ha, rs⟩
  obtain ⟨y, hy, ry⟩ := h2.get hk
  exact ⟨a, vs, y, e1, h1, hy, F, fc ++ ([] ++ fq), r.f0, r.fh, r.new, r.keep, r.trk, .cons q (.cons (.val ry) r1.sl), r.nd, r.own, r.len, r.pin⟩
end
def mPopAt (j : Nat) (m : MV) : MV := fun ρ => match ρ[j]? with
  | some (.own _ (.lst _)) => match m ρ with
    | some (.int i, ρ) => match ρ[j]? with
      | some (.own fr (.lst ds)) => match L2.ixN ds.length i with
        | some k => match ds[k]? with
          | some d => if ds.length ≤ 100000 then some (d, ρ.set j (.own fr (.lst (ds.eraseIdx k)))) else none
          | none => none
        | none => none
      | _ => none
    | _ => none
  | _ => none
section
variable {Y : Fam} {e : Expr} {apos cpos : Pos}
theorem j_popAt (j : Nat) {x : Str} {p : Pos} {m : MV} (h : JV Y e m) (hN : ∀ i, (Y.X i).N[j]? = some x := by intro _; rfl) (hv : ∀ i, Vis (Y.X i).env.scope x := by first | exact fun _ => Or.inl rfl | exact fun _ => Or.inr (Or.inl rfl) | exact fun _ => Or.inr (Or.inr rfl)) (hd : (x == ("__debug__" : Str)) = false := by decide) (hcd : (x == ("__classdict__" : Str)) = false := by decide)
    (hbase : ∀ i, attributeBase (.Name x p) "pop" (Y.X i).env (eval (.Name x p) (Y.X i).env) = eval (.Name x p) (Y.X i).env := by intro _; rfl)
    (hfew : ∀ i, ((backTo cpos (starEach [e] (Y.X i).env)).all (fun x => !x.1) && (backToKw cpos (keywordEach [] (Y.X i).env)).all (fun x => x.1.isSome) && decide ([e].length + ([] : List Keyword).length + (if ([] : List Keyword).isEmpty then 0 else 1) < 30)) = true := by intro _; rfl)
    (hline : (apos.endLine == cpos.line) = true := by rfl) (hs : ∀ i, starEach [e] (Y.X i).env = (false, eval e (Y.X i).env) :: starEach [] (Y.X i).env := by intro _; rfl) (hplain : ∀ i, (backTo cpos (starEach [] (Y.X i).env)).any (·.1) = false := by intro _; rfl) : JV Y (.Call (.Attribute (.Name x p) "pop" apos) [e] [] cpos) (mPopAt j m) := by
  obtain ⟨t, pa, s⟩ := h
  refine ⟨tBM Y.K "list" rPopAt (tVar j) (tCons t tNil), fun i => by rw [← Y.hK i]; exact pe_bm PySem.F.plainAttrs_list PySem.F.slot_list_pop PySem.F.type_list_pop mt_popAt (pe_var (hN i) (hv i) hd hcd) (pa_cons (pa i) pa_nil (hs i)) (hbase i) (hfew i) hline (hs i) (hplain i), fun c σ ρ T H Q r q => ?_⟩
  unfold mPopAt at q
  split at q
  · rename_i fr0 ds0 he0
    obtain ⟨a0, vs0, hv0, hH0, _⟩ := r.lstOwn he0
    refine ⟨_, hv0, .inl ⟨rfl, vs0, .inl (.inl hH0)⟩, s c σ ρ T H _ r ?_⟩
    cases hm : m ρ with
    | none =>
      rw [hm] at q
      exact q
    | some z =>
      obtain ⟨d, ρ1⟩ := z
      rw [hm] at q
      cases d with
      | int i =>
        simp only at q
        intro vd H1 r1
        have hvd := r1.intTop
        subst hvd
        have r1 := r1.pop
        split at q
        · rename_i fr ds he
          split at q
          · rename_i k hk
            split at q
            · rename_i d hdk
              split at q
              · rename_i hl
                obtain ⟨v, hv'⟩ := r1.ownv he
                have : v = .ref a0 := by
                  rw [hv0] at hv'
                  cases hv'
                  rfl
                subst this
                obtain ⟨a, us, y, e, hH, hy, r2⟩ := (r1.take hv' he).beside hdk
                cases e
                obtain ⟨a2, us2, e, hH2, hlen, r3⟩ := r2.write (fun us => us.eraseIdx k) (ds' := ds.eraseIdx k) fun F fp us f rs => rs.del k
                cases e
                rw [hH] at hH2
                cases hH2
                obtain ⟨q1, q2, q3, q4⟩ := ixN_seq hk
                rw [← hlen] at q1 q3 q4
                refine ⟨a0, us, i, k, y, rfl, rfl, hH, by omega, by omega, q1, hy, q _ _ ?_⟩
                exact r1.put_back he hv' r3
              · exact q.elim
            · exact q.elim
          · exact q.elim
        · exact q.elim
      | _ => exact q.elim
  · exact q.elim
end
/-! sorted(set(t)), t a tuple of whole numbers -/
def rSetTupI (K : PySem.W.Frag) (w : World) : List V → Hp → VK → Prop := fun vs H Q => ∃ (l : Addr) (ns : List Int), vs = [V.ref l] ∧ SqT K H l (ns.map V.int) ∧ ns.length < 64 ∧ ∀ p n, H p = none → n ≤ ns.length → Q (.ref p) (upd H p (SetO w p (fun j => decide (j ∈ ns)) n))
theorem cr_setTupI {X : Cx} (hc : X.calm = true) : CallR X (.type "set") (rSetTupI X.K X.w) := by
  intro pins s σ H vs us Q I r h
  obtain ⟨l, ns, rfl, hs, hn, q⟩ := h
  obtain ⟨its, rv, hT, hz⟩ := I.tuple hs
  rw [Vals.ref1 r]
  have hb : ns.length + 1 < scanBound := Nat.lt_of_lt_of_le (by omega : ns.length + 1 < 65) (by decide)
  refine call_set_tupI ns (I.ok.hd hc) hT (by simpa using rv.ints) hb fun h' tk c hS hc' hk => ?_
  exact ⟨.ref _, upd H _ (SetO X.w _ (fun j => decide (j ∈ ns)) c), I.laid (t' := tk) hk (Nat.le_refl _) (setO_new hS), rfl, q _ c (I.hok.fresh (Nat.le_refl _)) hc'⟩
/-- sorted(set(t)) -/
def mSSI (m : MV) : MO := fun ρ => match m ρ with
  | some (.tuple ds, ρ) => match intsD ds with
    | some ns => if ns.length < 64 then some (.own true (.lst ((isort (fun i j => decide (i < j)) (dedup ns)).map .int)), ρ) else none
    | none => none
  | _ => none
section
variable {Y : Fam}
theorem j_sortSetI {e : Expr} {m : MV} {p p2 pos pos2 : Pos} (h : JV Y e m) (hm : Y.mg "sorted" = none) (hm2 : Y.mg "set" = none) (hg : ∀ j, Gl (Y.X j) "sorted" := by intro _; rfl) (hg2 : ∀ j, Gl (Y.X j) "set" := by intro _; rfl)
    (hs : ∀ j, starEach [e] (Y.X j).env = (false, eval e (Y.X j).env) :: starEach [] (Y.X j).env := by intro _; rfl) (hpl : ∀ j, (backTo pos2 (starEach [] (Y.X j).env)).any (·.1) = false := by intro _; rfl)
    (hs1 : ∀ j, starEach [.Call (.Name "set" p2) [e] [] pos2] (Y.X j).env = (false, eval (.Call (.Name "set" p2) [e] [] pos2) (Y.X j).env) :: starEach [] (Y.X j).env := by intro _; rfl) (hpl1 : ∀ j, (backTo pos (starEach [] (Y.X j).env)).any (·.1) = false := by intro _; rfl) :
    JO Y (.Call (.Name "sorted" p) [.Call (.Name "set" p2) [e] [] pos2] [] pos) (mSSI m) := by
  obtain ⟨te, pe, se⟩ := h
  refine ⟨tCB (rSortedSet Y.w) (tCons (tCB (rSetTupI Y.K Y.w) (tCons te tNil)) tNil), fun j => ?_, fun c σ ρ T H Q r q => ?_⟩
  · rw [← Y.hK j, ← Y.hw j]
    exact pe_callB (cr_sortedSet (Y.calm j)) (hg j) (by rw [Y.hmg j]; exact hm) (by decide +kernel) (pa_cons (pe_callTy (cr_setTupI (Y.calm j)) (hg2 j) (by rw [Y.hmg j]; exact hm2) (by decide +kernel) (pa_cons (pe j) pa_nil (hs j)) (by decide) (by decide) (hs j) (hpl j)) pa_nil (hs1 j)) (by decide) (by decide) (hs1 j) (hpl1 j)
  · refine se c σ ρ T H _ r ?_
    unfold mSSI at q
    cases hm : m ρ with
    | none =>
      rw [hm] at q
      exact q
    | some z =>
      obtain ⟨d, ρ1⟩ := z
      rw [hm] at q
      cases d with
      | tuple ds =>
        simp only at q
        split at q
        · rename_i ns hn
          split at q
          · rename_i hok
            have := intsD_eq hn
            subst this
            intro v H1 r1
            obtain ⟨F, fp, f⟩ := id r1
            obtain ⟨l, us, rfl, h1, h2⟩ := f.top.tupAt
            have := h2.nums
            subst this
            refine ⟨l, ns, rfl, same_tup f.fh h1, hok, fun a n ha hna => ?_⟩
            refine ⟨a, _, n, rfl, upd_same, by omega, fun ns' p' pw mem hln hp' => ?_⟩
            have r2 := r1.fresh ha (SetO Y.w a (fun j => decide (j ∈ ns)) n)
            obtain ⟨F', fp', f'⟩ := id r2
            have e : ns' = isort (fun i j => decide (i < j)) (dedup ns) := by
              refine uniq_strict (r := fun a b : Int => a < b) (fun a z => by omega) (fun a b h z => by omega) (fun x => ?_) pw ?_
              · rw [mem x, (isort_perm _ _).mem_iff, mem_dedup, decide_eq_true_iff]
              · have nd2 : (isort (fun i j : Int => decide (i < j)) (dedup ns)).Nodup := (isort_perm _ _).nodup_iff.mpr (nodup_dedup _)
                exact ((isort_sorted ord_int _).and nd2).imp fun {a b} ⟨h1, h2⟩ => by
                  have := of_decide_eq_false h1
                  have : a ≠ b := h2
                  omega
            rw [e]
            exact q _ _ (f'.popV.lstNew hp' rps_ints)
          · exact q.elim
        · exact q.elim
      | _ => exact q.elim
end
end Fj

set_option Elab.async false
set_option linter.all false
set_option maxRecDepth 100000
set_option maxHeartbeats 4000000
set_option autoImplicit false
/-! t[::-1] of a tuple. -/
namespace Fj
open PySem PySem.Spec PyProof.Rows L2 HT
section
variable {prog : Program} {w : World} {A : Around} {E : Value → Shared → Prop} {s : Shared}
theorem adjust_rev (n : Nat) : Builtin.Slice.sliceAdjust none none (-1) (n : Int) = ((n : Int) - 1, -1) := by
  unfold Builtin.Slice.sliceAdjust
  simp
theorem places_rev (n : Nat) : Builtin.Slice.slicePlaces ((n : Int) - 1) (-1) (-1) = n := by
  unfold Builtin.Slice.slicePlaces
  simp
  omega
theorem sliceApplied_rev {sl : Addr} {vl vu vs : Value} {n : Nat} {Q : Int × Int × Nat → Shared → Prop} (hs : s.heap.IsSliceOf sl vl vu vs) (pl : IsPart vl none) (pu : IsPart vu none) (ps : IsPart vs (some (-1)))
    (h : Q ((n : Int) - 1, -1, n) s) : wpAny (model prog w) A (Builtin.Slice.sliceApplied (.ref sl) (pure (n : Int))) Q E s := by
  obtain ⟨os, hos, hcs, hds⟩ := id hs
  unfold Builtin.Slice.sliceApplied Builtin.Slice.sliceFields
  refine wpAny_bind (wpAny_bind (wpAny_field hos hds (x := vl) rfl (wpAny_bind (wpAny_field hos hds (x := vu) rfl (wpAny_bind (wpAny_field hos hds (x := vs) rfl (wpAny_pure ?_)))))))
  refine wpAny_bind (slicePart_ ps ?_)
  show wpAny _ _ (if ((-1 : Int) == 0) = true then _ else _) _ _ s
  rw [if_neg (by decide)]
  refine wpAny_bind (slicePart_ pl (wpAny_bind (slicePart_ pu (wpAny_bind (wpAny_pure ?_)))))
  show wpAny _ _ (match Builtin.Slice.sliceAdjust none none (-1) (n : Int) with | (lo, hi) => pure (lo, (-1 : Int), Builtin.Slice.slicePlaces lo hi (-1))) _ _ s
  rw [adjust_rev n]
  show wpAny _ _ (pure ((n : Int) - 1, (-1 : Int), Builtin.Slice.slicePlaces ((n : Int) - 1) (-1) (-1))) _ _ s
  rw [places_rev]
  exact wpAny_pure h
theorem fm_congr {α β : Type} {f g : α → Option β} : ∀ (l : List α), (∀ x ∈ l, f x = g x) → l.filterMap f = l.filterMap g
  | [], _ => rfl
  | a :: l, h => by
    rw [List.filterMap_cons, List.filterMap_cons, h a (List.mem_cons_self ..), fm_congr l fun x hx => h x (List.mem_cons_of_mem _ hx)]
theorem pick_rev (xs : Array Value) : ((List.range xs.size).filterMap fun (m : Nat) => xs[(((xs.size : Int) - 1) + (m : Int) * (-1)).toNat]?).toArray = xs.toList.reverse.toArray := by
  congr 1
  have h1 := PySem.W.krv_all xs
  have h2 := congrArg List.reverse h1
  rw [← List.filterMap_reverse, ← PySem.W.krv_range, List.filterMap_map] at h2
  rw [← h2]
  refine fm_congr _ fun m hm => ?_
  have := List.mem_range.mp hm
  have e : (((xs.size : Int) - 1) + (m : Int) * (-1)).toNat = xs.size - 1 - m := by omega
  show xs[(((xs.size : Int) - 1) + (m : Int) * (-1)).toNat]? = xs[xs.size - 1 - m]?
  rw [e]
theorem getItem_tuple_rev {t sl : Addr} {items : Array Value} {vl vu vs : Value} {Q : Value → Shared → Prop} (ht : IsTup s.heap t items) (hs : s.heap.IsSliceOf sl vl vu vs) (pl : IsPart vl none) (pu : IsPart vu none) (ps : IsPart vs (some (-1)))
    (h : Q (.ref s.heap.objs.size) { s with heap := s.heap.push { cls := .type "tuple", data := .seq items.toList.reverse.toArray } })
    (hsz : items.size ≤ sizeLine) : wpAny (model prog w) A (getItem (.ref t) (.ref sl)) Q E s := by
  have htake : sizeOk (.seq items.toList.reverse.toArray) := by
    show items.toList.reverse.toArray.size ≤ sizeLine
    rw [List.size_toArray, List.length_reverse, Array.length_toList]
    exact hsz
  obtain ⟨os, hos, hcs, hds⟩ := id hs
  have hTs : s.TypeIs (.ref sl) "slice" := ⟨os, hos, hcs⟩
  unfold getItem
  try with_reducible refine wpAny_holding ?_
  first | refine wpAny_bind (wpAny_pure ?_) | skip
  refine wpAny_bind (wpAny_sequenceKey ht.typeIs (by decide) ?_)
  refine wpAny_bind (wpAny_callSpecial?_slot (name := Str.ofString "__getitem__") ht.typeIs PyProof.Rows.slot_tuple_getitem
    (wpAny_call_entry PyProof.Rows.slot_tuple_getitem ht.typeIs entry_tuple_getitem ?_ (args_tuple_getitem _ _)))
  show wpAny _ _ (Builtin.Tuple.tupleItemsOf (.ref t) >>= _) _ _ s
  refine wpAny_bind (tupleItemsOf_ ht ?_)
  refine wpAny_bind (wpAny_typeOf hTs ?_)
  rw [if_pos (by decide)]
  refine wpAny_bind (sliceApplied_rev hs pl pu ps ?_)
  have hno : ¬ ((((items.size : Int) - 1) == 0 && (-1 : Int) == 1 && items.size == items.size) = true) := by
    intro q
    rw [Bool.and_eq_true, Bool.and_eq_true] at q
    exact absurd q.1.2 (by decide)
  show wpAny _ _ (if (((items.size : Int) - 1) == 0 && (-1 : Int) == 1 && items.size == items.size) = true then _ else _) _ _ s
  rw [if_neg hno, pick_rev]
  first
    | exact wpAny_bind (m := Builtin.Tuple.tupleExact _) (wpAny_newObj_type (wpAny_pure ⟨_, rfl, wpAny_pure h⟩) htake)
    | exact wpAny_bind (m := Builtin.Tuple.tupleExact _) (wpAny_newObj_type (wpAny_bind (wpAny_pure (wpAny_pure ⟨_, rfl, wpAny_pure h⟩))) htake)
    | exact wpAny_bind (wpAny_bind (m := Builtin.Tuple.tupleExact _) (wpAny_newObj_type (wpAny_pure (wpAny_pure ⟨_, rfl, wpAny_pure h⟩)) htake))
    | exact wpAny_bind (wpAny_bind (m := Builtin.Tuple.tupleExact _) (wpAny_newObj_type (wpAny_pure ⟨_, rfl, wpAny_pure h⟩) htake))
end
def tRevT (K : PySem.W.Frag) (te : TE) : TE := fun σ H Q => te σ H fun x H1 => ∃ a xs, x = .ref a ∧ SqT K H1 a xs ∧ ∀ p, H1 p = none → Q (.ref p) (upd H1 p (.tup xs.reverse))
theorem pe_revT {X : Cx} {e : Expr} {te : TE} {k : Nat} {p1 p2 p3 pos : Pos} (he : PE X e te) : PE X (.Subscript e (.Slice none none (some (.UnaryOp .USub (.Constant (.int 1) k p1) p2)) p3) pos) (tRevT X.K te) := by
  refine ⟨fun pins s σ H Q I h => ?_⟩
  refine Subscript_ (thn (he.run pins s σ H _ I h) fun v s1 ⟨x, H1, I1, r1, q1⟩ => ?_)
  obtain ⟨a, xs, ex, hx, q⟩ := q1
  subst ex
  cases r1
  have hst : PO X (some (.UnaryOp .USub (.Constant (.int 1) k p1) p2)) (tPart (tUn (rU fun i => .int (-i)) (tC (.int 1)))) := po_some (pe_un un_neg pe_int)
  refine wpAny_Slice (thn (po_none.run pins s1 σ H1 (fun o H2 => o = none ∧ H2 = H1) I1 ⟨rfl, rfl⟩) fun vl s2 ⟨l, H2, I2, pl, el, e2⟩ => ?_)
  subst el e2
  refine thn (po_none.run pins s2 σ H2 (fun o H3 => o = none ∧ H3 = H2) I2 ⟨rfl, rfl⟩) fun vu s3 ⟨u, H3, I3, pu, eu, e3⟩ => ?_
  subst eu e3
  refine thn (hst.run pins s3 σ H3 (fun o H4 => o = some (-1) ∧ H4 = H3) I3 ⟨1, rfl, -1, rfl, rfl, rfl⟩) fun vs s4 ⟨o, H4, I4, ps, eo, e4⟩ => ?_
  subst eo e4
  have I5 : Inv X pins σ H4 { s4 with heap := s4.heap.push { cls := .type "slice", data := .fields #[vl, vu, vs] } } := I4.kept (t' := s4.toks) fun b ob q => Heap.get?_push_of_some _ q
  obtain ⟨its, r, ht, hz⟩ := I5.tuple hx
  have hlen := r.length
  show wpAny (model X.prog X.w) X.A (subscriptTail e (.Slice none none (some (.UnaryOp .USub (.Constant (.int 1) k p1) p2)) p3) (.ref a) (.ref s4.heap.objs.size)) (EP X pins σ Q) X.xe { s4 with heap := s4.heap.push { cls := .type "slice", data := .fields #[vl, vu, vs] } }
  refine tail_any (ops := [.ref a, .ref s4.heap.objs.size]) ht.typeIs (PyProof.Rows.slot_tuple_getitem.lookup) ?_ (by with_unfolding_all rfl)
  refine getItem_tuple_rev ht (Heap.IsSliceOf.new _ vl vu vs) pl pu ps ?_ (by rw [List.size_toArray]; omega)
  refine ⟨.ref _, _, I5.laid (t' := s4.toks) (o := .tup xs.reverse) (fun b ob q => Heap.get?_push_of_some _ q) (Nat.le_refl _) ?_, rfl, q _ (I5.hok.fresh (Nat.le_refl _))⟩
  exact ⟨by rw [List.length_reverse]; exact hz, _, by simpa using r.reverse, IsTup.new _ _⟩
section
variable {Y : Fam} {e : Expr} {pos : Pos}
/-- xs[::-1], a list's or a tuple's -/
def mRev2 (m : MV) : MO := fun ρ => match m ρ with
  | some (.list ds, ρ) => some (.own true (.lst ds.reverse), ρ)
  | some (.tuple ds, ρ) => some (.val (.tuple ds.reverse), ρ)
  | _ => none
theorem pe_or2 {X : Cx} {e : Expr} {t1 t2 : TE} (h : PE X e t1) (g : PE X e t2) : PE X e (fun σ H Q => t1 σ H Q ∨ t2 σ H Q) := ⟨fun pins s σ H Q I z => z.elim (h.run pins s σ H Q I) (g.run pins s σ H Q I)⟩
theorem j_rev2 {m : MV} {k : Nat} {p1 p2 p3 : Pos} (he : JV Y e m) : JO Y (.Subscript e (.Slice none none (some (.UnaryOp .USub (.Constant (.int 1) k p1) p2)) p3) pos) (mRev2 m) := by
  obtain ⟨t, p, s⟩ := he
  refine ⟨_, fun j => pe_or2 (t1 := tRevL Y.K t) (t2 := tRevT Y.K t) (by rw [← Y.hK j]; exact pe_revL (p j)) (by rw [← Y.hK j]; exact pe_revT (p j)), fun c σ ρ T H Q re q => ?_⟩
  unfold mRev2 at q
  split at q
  · rename_i ds ρ1 hm
    refine .inl (s c σ ρ T H _ re ?_)
    rw [hm]
    intro v H1 r1
    obtain ⟨F, fp, f⟩ := r1
    obtain ⟨p, us, rfl, h1, h2⟩ := f.top.lstAt
    exact ⟨p, us, rfl, .inl (.inl (f.fh _ _ h1)), fun p' hp => q _ _ (f.popV.lstNew hp h2.rev)⟩
  · rename_i ds ρ1 hm
    refine .inr (s c σ ρ T H _ re ?_)
    rw [hm]
    intro v H1 r1
    obtain ⟨F, fp, f⟩ := r1
    obtain ⟨p, us, rfl, h1, h2⟩ := f.top.tupAt
    exact ⟨p, us, rfl, same_tup f.fh h1, fun p' hp => q _ _ (f.popV.tupNew hp h2.rev)⟩
  · exact q.elim
/-- {} -/
theorem j_dct0 : JV Y (.Dict [] [] pos) (mC (.dict [])) := ⟨tDNewK, fun _ => pe_dnewK, fun _ _ _ _ _ _ r q p hp => q _ _ (let ⟨_, _, f⟩ := r; f.dctNewV hp)⟩
/-- str(i) -/
def gStrI : List PyData → Option Ent
  | [.int i] => if i.natAbs.log2 < 1920 then some (.val (.str (toString i : String))) else none
  | _ => none
theorem c_strI : CallJ Y (.type "str") gStrI := by
  refine ⟨_, fun j => call_str_int, fun c σ ρ T H vs ds z Q hl r e q => ?_⟩
  unfold gStrI at e
  split at e
  · split at e
    · rename_i hi
      cases e
      obtain ⟨v, rfl⟩ := len1 hl
      have r : Rel Y.K c σ ρ ((v, .val (.int _)) :: T) H := r
      have hx := r.intTop
      subst hx
      exact ⟨_, rfl, hi, q _ _ (r.pop.pushS _)⟩
    · cases e
  · cases e
/-- list(range(n)) -/
noncomputable def mLR (m : MV) : MO := fun ρ => match m ρ with
  | some (.int n, ρ) => if R1ok n then if n.toNat ≤ 100000 then some (.own true (.lst (rngD 0 n.toNat)), ρ) else none else none
  | _ => none
theorem j_listRg {m : MV} {p p2 pos2 : Pos} (h : JV Y e m) (hm : Y.mg "list" = none) (hm2 : Y.mg "range" = none) (hg : ∀ j, Gl (Y.X j) "list" := by intro _; rfl) (hg2 : ∀ j, Gl (Y.X j) "range" := by intro _; rfl)
    (hs : ∀ j, starEach [e] (Y.X j).env = (false, eval e (Y.X j).env) :: starEach [] (Y.X j).env := by intro _; rfl)
    (hs1 : ∀ j, starEach [.Call (.Name "range" p2) [e] [] pos2] (Y.X j).env = (false, eval (.Call (.Name "range" p2) [e] [] pos2) (Y.X j).env) :: starEach [] (Y.X j).env := by intro _; rfl) :
    JO Y (.Call (.Name "list" p) [.Call (.Name "range" p2) [e] [] pos2] [] pos) (mLR m) := by
  obtain ⟨t, pe, s⟩ := h
  refine ⟨tLstRg (tRg1 t), fun j => pe_listRg (Y.calm j) (hg j) (by rw [Y.hmg j]; exact hm) (prg_1 (hg2 j) (by rw [Y.hmg j]; exact hm2) (pe j) (hs j)) (hs1 j), fun c σ ρ T H Q re q => s c σ ρ T H _ re ?_⟩
  unfold mLR at q
  cases hm : m ρ with
  | none =>
    rw [hm] at q
    exact q
  | some z =>
    obtain ⟨d, ρ1⟩ := z
    rw [hm] at q
    cases d with
    | int n =>
      simp only at q
      split at q
      · rename_i hr
        split at q
        · rename_i hn
          intro v H1 r1
          have hv := r1.intTop
          subst hv
          refine ⟨n, rfl, ⟨by omega, by omega, hr.1, hr.2, by rw [Int.sub_zero]; omega⟩, fun p' hp => q _ _ ?_⟩
          obtain ⟨F, fp, f⟩ := r1
          have e1 : rgV 0 n = ((List.range n.toNat).map fun i => (0 : Int) + (i : Nat)).map V.int := by
            unfold rgV
            rw [Int.sub_zero, List.map_map]
            rfl
          have e2 : rngD 0 n.toNat = ((List.range n.toNat).map fun i => (0 : Int) + (i : Nat)).map .int := by
            unfold rngD
            rw [List.map_map]
            rfl
          rw [e1, e2]
          exact f.popV.lstNew hp rps_ints
        · exact q.elim
      · exact q.elim
    | _ => exact q.elim
end
end Fj

set_option Elab.async false
set_option linter.all false
set_option maxRecDepth 100000
set_option maxHeartbeats 4000000
set_option autoImplicit false
/-! A list held against [], whatever stands in it. -/
namespace Fj
open PySem PySem.Spec PyProof.Rows L2
def rNilL (K : PySem.W.Frag) (neg : Bool) : R2 := fun x y H Q => ∃ a b xs, x = .ref a ∧ y = .ref b ∧ SqL K H a xs ∧ SqL K H b [] ∧ Q (.bl (if neg = true then !xs.isEmpty else xs.isEmpty)) H
theorem op_eqNilL {X : Cx} (hu : X.A.units < cLine) : OpR X (compareOp .Eq) (rNilL X.K false) := by
  intro pins s σ H x y v u Q I rx ry h
  obtain ⟨a, b, xs, rfl, rfl, h1, h2, q⟩ := h
  cases rx
  cases ry
  obtain ⟨its, rv, hl, _⟩ := I.list h1
  obtain ⟨its2, rv2, hl2, _⟩ := I.list h2
  cases rv2
  cases xs with
  | nil =>
    cases rv
    exact SeqAt.eq_listAt (e := fun _ => true) hl.isList hl2.isList rfl hu (fun j h1 _ => absurd h1 (Nat.not_lt_zero _)) ⟨.bl _, H, I, rfl, q⟩
  | cons x xs =>
    cases rv with
    | cons r1 r2 => exact SeqAt.eq_list_lengthsAt hl.isList hl2.isList (by simp) hu ⟨.bl _, H, I, rfl, q⟩
theorem op_neNilL {X : Cx} (hu : X.A.units < cLine) : OpR X (compareOp .NotEq) (rNilL X.K true) := by
  intro pins s σ H x y v u Q I rx ry h
  obtain ⟨a, b, xs, rfl, rfl, h1, h2, q⟩ := h
  cases rx
  cases ry
  obtain ⟨its, rv, hl, _⟩ := I.list h1
  obtain ⟨its2, rv2, hl2, _⟩ := I.list h2
  cases rv2
  cases xs with
  | nil =>
    cases rv
    exact SeqAt.RcNeAt.lists (e := fun _ => true) hl.isList hl2.isList rfl hu (fun j h1 _ => absurd h1 (Nat.not_lt_zero _)) _ _ _ _ ⟨.bl _, H, I, rfl, q⟩
  | cons x xs =>
    cases rv with
    | cons r1 r2 => exact SeqAt.RcNeAt.lists_lengths hl.isList hl2.isList (by simp) hu _ _ _ _ ⟨.bl _, H, I, rfl, q⟩
/-- xs == [] -/
def gEqNl : PyData → PyData → Option PyData
  | .list ds, .list [] => some (.bool ds.isEmpty)
  | _, _ => none
def gNeNl : PyData → PyData → Option PyData
  | .list ds, .list [] => some (.bool (!ds.isEmpty))
  | _, _ => none
section
variable {Y : Fam}
theorem emp_len {α β : Type} {xs : List α} {ys : List β} (h : xs.length = ys.length) : xs.isEmpty = ys.isEmpty := by
  cases xs <;> cases ys <;> first | rfl | cases h
theorem opj_eqNl : OpJ Y (compareOp .Eq) gEqNl := by
  refine ⟨_, fun j => by have := op_eqNilL (X := Y.X j) (by have := units65 (Y.room j); omega); rw [Y.hK j] at this; exact this, fun c σ ρ T H x y dx dy z Q r e q => ?_⟩
  unfold gEqNl at e
  split at e
  · cases e
    obtain ⟨h1, h2⟩ := r.two
    cases h1 with
    | lst a1 b1 =>
      cases h2 with
      | lst a2 b2 =>
        cases b2
        refine ⟨_, _, _, rfl, rfl, .inl (.inl a1), .inl (.inl a2), ?_⟩
        rw [if_neg Bool.false_ne_true, emp_len b1.length]
        exact q _ H (r.pop2.pushB _)
  · cases e
theorem opj_neNl : OpJ Y (compareOp .NotEq) gNeNl := by
  refine ⟨_, fun j => by have := op_neNilL (X := Y.X j) (by have := units65 (Y.room j); omega); rw [Y.hK j] at this; exact this, fun c σ ρ T H x y dx dy z Q r e q => ?_⟩
  unfold gNeNl at e
  split at e
  · cases e
    obtain ⟨h1, h2⟩ := r.two
    cases h1 with
    | lst a1 b1 =>
      cases h2 with
      | lst a2 b2 =>
        cases b2
        refine ⟨_, _, _, rfl, rfl, .inl (.inl a1), .inl (.inl a2), ?_⟩
        rw [if_pos rfl, emp_len b1.length]
        exact q _ H (r.pop2.pushB _)
  · cases e
theorem o_eqN : OpJ Y (compareOp .Eq) (fun x y => (gEqNl x y).or (gEq x y)) := opj_eqNl.or o_eq
theorem o_neN : OpJ Y (compareOp .NotEq) (fun x y => (gNeNl x y).or (gNe x y)) := opj_neNl.or o_ne
def gEqN (x y : PyData) : Option PyData := (gEqNl x y).or (gEq x y)
def gNeN (x y : PyData) : Option PyData := (gNeNl x y).or (gNe x y)
end
end Fj

set_option Elab.async false
set_option linter.all false
set_option maxRecDepth 100000
set_option maxHeartbeats 4000000
set_option autoImplicit false
/-! enumerate(t) of a tuple. -/
namespace Fj
open PySem PySem.Spec PyProof.Rows L2
open AutoSeq1 (wpAny_loadPart')
theorem meets_enumT (l : Addr) (items : Array Value) (n : Nat) (dct : Option Addr) (sl : Array (Option Value)) :
    Meets (Builtin.«enumerate.__new__» ⟨[.type "enumerate", .ref l], []⟩) (fun _ R s => s.heap.get? l = some { cls := .type "tuple", dict := dct, data := .seq items n, slots := sl } ∧
      R (.ok (.ret (.ref (s.heap.push { cls := .type "tuple_iterator", data := .fields #[.ref l, .int 0 0] }).objs.size)))
        { s with heap := (s.heap.push { cls := .type "tuple_iterator", data := .fields #[.ref l, .int 0 0] }).push { cls := .type "enumerate", data := .fields #[.none, .bool false, .ref s.heap.objs.size, rawInt 0, .none, .none] } }) :=
  .of_wp fun prog w A R s h => by
    obtain ⟨hp, g, d, tk, os⟩ := s; obtain ⟨hl, h⟩ := h
    have hsub := sub_enumerate
    have hL : Heap.IsTuple (Shared.heap ⟨hp, g, d, tk, os⟩) l items := ⟨_, hl, rfl, n, rfl⟩
    wp_walk using wpAny_loadPart' hl
    refine wpAny_stack_any fun st => wpAny_pure ?_
    split
    · rename_i c _ _ _ _ _
      cases (c == Value.type "enumerate")
      · wp_walk using wpAny_loadPart' hl, wpAny_pyIter_tuple hL
        exact ⟨_, rfl, h⟩
      · wp_walk using wpAny_loadPart' hl, wpAny_pyIter_tuple hL
        exact ⟨_, rfl, h⟩
    · wp_walk using wpAny_loadPart' hl, wpAny_pyIter_tuple hL
      exact ⟨_, rfl, h⟩
section
variable {prog : Program} {w : World} {A : Around} {E : Value → Shared → Prop} {s : Shared}
theorem call_enumT {l : Addr} {items : Array Value} {Q : Value → Shared → Prop} (hL : s.heap.IsTuple l items)
    (h : ∀ h', IsEnum h' (s.heap.objs.size + 1) s.heap.objs.size 0 .none → h'.IsTupleIter s.heap.objs.size l 0 → h'.objs.size = s.heap.objs.size + 2 →
      (∀ b o, s.heap.get? b = some o → h'.get? b = some o) → Q (.ref (s.heap.objs.size + 1)) { s with heap := h' }) :
    wpAny (model prog w) A (call (.type "enumerate") [.ref l]) Q E s := by
  obtain ⟨⟨c, dct, dt, sl⟩, hl, hc, n, hd⟩ := hL
  replace hc : c = .type "tuple" := hc
  replace hd : dt = .seq items n := hd
  subst hc hd
  refine callType_new F.called_enumerate (by decide) (F.typeCall_enumerate_1 _) (F.newCall_enumerate_1 _) (fun obj => F.args_object_init_2 obj _) F.entry_enumerate_new
    (meets_enumT l items n dct sl) ⟨hl, ?_⟩
  have hz : (s.heap.push { cls := .type "tuple_iterator", data := .fields #[.ref l, .int 0 0] }).objs.size = s.heap.objs.size + 1 := Heap.size_push ..
  show _ ∧ _
  rw [hz]
  have he : IsEnum ((s.heap.push { cls := .type "tuple_iterator", data := .fields #[.ref l, .int 0 0] }).push
      { cls := .type "enumerate", data := .fields #[.none, .bool false, .ref s.heap.objs.size, rawInt 0, .none, .none] }) (s.heap.objs.size + 1) s.heap.objs.size 0 .none := by
    have := Heap.get?_push_size (s.heap.push { cls := .type "tuple_iterator", data := .fields #[.ref l, .int 0 0] })
      (o := { cls := .type "enumerate", data := .fields #[.none, .bool false, .ref s.heap.objs.size, rawInt 0, .none, .none] }) rfl
    rw [hz] at this; exact this
  refine ⟨⟨_, he, rfl⟩, h _ he ⟨_, Heap.get?_push_of_some _ (Heap.get?_push_size _ rfl), rfl, rfl⟩ (by rw [Heap.size_push, hz]) fun b o x => Heap.get?_push_of_some _ (Heap.get?_push_of_some _ x)⟩
end
/-- the tuple at a, each item in a new pair -/
def IteT (K : PySem.W.Frag) (a : Addr) : It :=
  ⟨fun i H => ∃ (xs : List V) (x : V), SqT K H a xs ∧ xs[i]? = some x, fun i H v H' => ∃ T x, v = .ref T ∧ H T = none ∧ H' = upd H T (.tup [.int (i : Nat), x]) ∧ ∀ xs, SqT K H a xs → xs[i]? = some x, fun i H => ∃ xs : List V, SqT K H a xs ∧ xs.length ≤ i⟩
theorem turn_enumT {P : Program} {w : World} {K : PySem.W.Frag} {elts : List Expr} {kk : Nat} {tpos : Pos} (a e it : Addr) :
    Turn P w K (.Tuple elts kk tpos) (IteT K a) [e, it] e (fun i h => (∃ old, IsEnum h e it ((i : Nat) : Int) old) ∧ h.IsTupleIter it a i ∧ e ≠ it ∧ a ≠ it ∧ e ≠ a) where
  mem := by simp
  obj := fun i h st b hb => by
    obtain ⟨⟨old, he⟩, ⟨o, ho, hc, hd⟩, _⟩ := st
    have e' : b = e ∨ b = it := by simpa using hb
    rcases e' with z | z
    · rw [z]; exact ⟨_, he, fun v q => nomatch q⟩
    · rw [z]; exact ⟨o, ho, fun v q => by rw [hd] at q; cases q⟩
  keep := fun i h h' st k => let ⟨⟨old, he⟩, hi, hne, hne2⟩ := st; ⟨⟨old, k e (by simp) _ he⟩, hi.at fun o q => k it (by simp) o q, hne, hne2⟩
  item := by
    intro X hP hw hK hc i pins s σ H E I hf st hg
    subst hP hw hK
    obtain ⟨⟨old, he⟩, hit, hne, hai, hea⟩ := st
    obtain ⟨xs, x, hq, hx⟩ := hg
    obtain ⟨its, rv, p, hz⟩ := I.tuple hq
    obtain ⟨u, hu, ru⟩ := rv.get hx
    have hel : e < s.heap.objs.size := Heap.lt_size he
    have hil : it < s.heap.objs.size := by obtain ⟨_, q, _⟩ := hit; exact Heap.lt_size q
    have hlt : i < its.toArray.size := by
      rcases Nat.lt_or_ge i its.length with z | z
      · simpa using z
      · rw [List.getElem?_eq_none z] at hu; exact nomatch hu
    have hea' : e ∉ [it, a] := by simp [hne, hea]
    refine wpAny_pyNext_enum_itemD (Draws.tuple (A := X.A.in1) (I.ok.hd hc) it a hai its.toArray) he ⟨hit, p⟩ hlt hne hea' fun u' h' tk hu' ho hit' hT hsz hk => ?_
    have eu : u' = u := by
      have z : its.toArray[i]? = some u' := hu'
      rw [List.getElem?_toArray, hu] at z
      exact (Option.some.inj z).symm
    subst eu
    refine ⟨_, rfl, wpAny_letOwnedTupleGo_enum (s := { s with heap := h', toks := tk + 1 }) ho fun h'' he' sb => ?_⟩
    have hT2 : h''.get? s.heap.objs.size = some { cls := .type "tuple", data := .seq #[.int i tk, u'] } := (sb.2 _ (Nat.ne_of_gt hel)).trans hT
    have new : ObjOk X.prog X.w (upd H s.heap.objs.size (.tup [.int (i : Nat), x])) h'' s.heap.objs.size (.tup [.int (i : Nat), x]) :=
      ⟨by show 2 ≤ sizeLine; decide, [.int i tk, u'], .cons ⟨_, rfl⟩ (.cons ru .nil), ⟨_, hT2, rfl, _, rfl⟩⟩
    have I1 : Inv X pins σ (upd H s.heap.objs.size (.tup [.int (i : Nat), x])) { s with heap := h'', toks := tk + 1 } :=
      I.turnedNew (ch := [e, it]) (fun b ob hb q => (sb.2 b (fun z => hb (by simp [z]))).trans (hk b ob (fun z => hb (by simp [z])) (fun z => hb (by simp [z])) q)) hf (Nat.le_refl _) new
    refine ⟨.ref s.heap.objs.size, _, I1, rfl, ⟨_, x, rfl, I.hok.fresh (Nat.le_refl _), rfl, fun ys hy => ?_⟩, ⟨⟨u', ?_⟩, hit'.1.at fun o q => (sb.2 it (Ne.symm hne)).trans q, hne, hai, hea⟩, fun b hb => ?_⟩
    · rw [I.tuple_inj hy hq]
      exact hx
    · have e1 : ((i + 1 : Nat) : Int) = (i : Int) + 1 := by omega
      rw [e1]; exact he'
    · have hb' : b < s.heap.objs.size := by
        have e' : b = e ∨ b = it := by simpa using hb
        rcases e' with z | z
        · rw [z]; exact hel
        · rw [z]; exact hil
      rw [upd_ne (Nat.ne_of_lt hb')]
      exact (hf b hb).1
  done := by
    intro X hP hw hK hc i pins s σ H E I hf st hg
    subst hP hw hK
    obtain ⟨⟨old, he⟩, hit, hne, hai, hea⟩ := st
    obtain ⟨xs, hq, hx⟩ := hg
    obtain ⟨its, rv, p, hz⟩ := I.tuple hq
    obtain ⟨f0, f1, f2, f3, f4, f5⟩ := hf it (by simp)
    have hl := rv.length
    have hT : s.TypeIs (.ref e) "enumerate" := ⟨_, he, rfl⟩
    unfold pyNext
    refine wpAny_bind (wpAny_attempt (wpAny_callSpecial?_slot (name := Str.ofString "__next__") hT F.slot_enumerate_next
      (wpAny_call_entry F.slot_enumerate_next hT F.entry_enumerate_next ?_ (F.args_enumerate_next_1 _))))
    show wpAny _ _ (field (.ref e) 2 >>= _) _ _ _
    refine wpAny_bind (wpAny_field he rfl (x := .ref it) rfl ?_)
    refine wpAny_bind (wpAny_nextOf_tuple_end (I.ok.hd hc) hit p (by simp; omega) fun h' x eb hx' => ?_)
    obtain ⟨o, ho, hcc⟩ := hx'
    refine wpAny_bind (wpAny_isInstance (T := "StopIteration") (b := true) ⟨o, ho, hcc⟩ isSubtype_stop ?_)
    exact wpAny_pure ⟨rfl, I.turned (t' := s.toks) (fun b o hb q => eb b o hb q) f0 f1 f3 f4 f5⟩
  self := fun A i s Q E st h => let ⟨⟨_, he⟩, _⟩ := st; wpAny_pyIter_enum he h
def iEnumT (K : PySem.W.Frag) (ta : TA) : TI := fun σ H R => ta σ H fun vs H1 => ∃ a xs, vs = [.ref a] ∧ ((SqL K H1 a xs ∧ R (Ite K a) H1) ∨ (SqT K H1 a xs ∧ R (IteT K a) H1))
theorem pi_enumT {X : Cx} {e : Expr} {ta : TA} {p pos tpos : Pos} {elts : List Expr} {kk : Nat} (hg : Gl X "enumerate") (hm : X.mg "enumerate" = none) (ha : PA X [e] ta) (hs : starEach [e] X.env = [(false, eval e X.env)] := by rfl) :
    PI X (.Tuple elts kk tpos) (.Call (.Name "enumerate" p) [e] [] pos) (iEnumT X.K ta) := by
  refine ⟨fun pins s σ H R I h => ?_⟩
  refine Call_ (ld_blt I hg hm boot_enumerate (PyProof.Rows.callWith_type1 (thn (ha.run pos pins s σ H _ I h) fun us s1 ⟨vs, H1, I1, r1, q1⟩ => ?_) hs rfl))
  obtain ⟨a, xs, ex, hq⟩ := q1
  subst ex
  cases r1 with
  | cons r rr =>
    cases rr
    cases r
    have fps : ∀ b ∈ [s1.heap.objs.size + 1, s1.heap.objs.size], FpOk X pins H1 b := fun b hb => by
      have e' : b = s1.heap.objs.size + 1 ∨ b = s1.heap.objs.size := by simpa using hb
      have hle : s1.heap.objs.size ≤ b := by
        rcases e' with z | z
        · rw [z]; exact Nat.le_add_right _ _
        · rw [z]; exact Nat.le_refl _
      exact I1.fpOk hle (I1.hok.fresh hle)
    rcases hq with ⟨hq, q⟩ | ⟨hq, q⟩
    · obtain ⟨its, rv, p', hz⟩ := I1.list hq
      refine call_enumerate_list p'.isList fun h' he hit hsz hk => wpAny_pyIter_enum he ?_
      have I2 : Inv X pins σ H1 { s1 with heap := h' } := I1.kept (t' := s1.toks) hk
      exact ⟨s1.heap.objs.size + 1, [s1.heap.objs.size + 1, s1.heap.objs.size], _, _, H1, rfl, I2, turn_enum a (s1.heap.objs.size + 1) s1.heap.objs.size, ⟨⟨.none, he⟩, hit, Nat.succ_ne_self _⟩, fps, q⟩
    · obtain ⟨its, rv, p', hz⟩ := I1.tuple hq
      have hal : a < s1.heap.objs.size := by obtain ⟨_, q, _⟩ := p'; exact Heap.lt_size q
      refine call_enumT p' fun h' he hit hsz hk => wpAny_pyIter_enum he ?_
      have I2 : Inv X pins σ H1 { s1 with heap := h' } := I1.kept (t' := s1.toks) hk
      exact ⟨s1.heap.objs.size + 1, [s1.heap.objs.size + 1, s1.heap.objs.size], _, _, H1, rfl, I2, turn_enumT a (s1.heap.objs.size + 1) s1.heap.objs.size, ⟨⟨.none, he⟩, hit, Nat.succ_ne_self _, Nat.ne_of_lt hal, Nat.ne_of_gt (Nat.lt_succ_of_lt hal)⟩, fps, q⟩
section
variable {K : PySem.W.Frag} {c : Ct}
theorem walk_enumT {a : Addr} {ds : List PyData} : Walk K c (IteT K a) [(.ref a, .val (.tuple ds))] (enumD 0 ds) := fun σ ρ T H r i => by
  obtain ⟨F, fp, f⟩ := r
  have f : RelF K c σ ρ ((.ref a, .val (.tuple ds)) :: T) H F fp := f
  obtain ⟨p, us, e, h1, h2⟩ := f.top.tupAt
  cases e
  have hq : SqT K H a us := same_tup f.fh h1
  refine ⟨fun d hd => ?_, fun hl => ⟨us, hq, by rw [h2.length, ← enumD_length ds 0]; exact hl⟩⟩
  rw [enumD_get, Nat.zero_add] at hd
  obtain ⟨d0, hd0, rfl⟩ := Option.map_eq_some_iff.mp hd
  obtain ⟨v, hv, rv⟩ := h2.get hd0
  refine ⟨⟨us, v, hq, hv⟩, fun x H' y => ?_⟩
  obtain ⟨tt, x', rfl, ht, rfl, y⟩ := y
  have := y us hq
  rw [hv] at this
  cases this
  exact f.tupNew ht (.cons (.int _) (.cons rv .nil))
end
section
variable {Y : Fam} {e : Expr} {p pos tpos : Pos}
/-- enumerate(xs), a list's or a tuple's -/
def mEnum2 (n : MA) : MI := fun ρ => match n ρ with
  | some ([.list ds], ρ) => some (enumD 0 ds, ρ)
  | some ([.tuple ds], ρ) => some (enumD 0 ds, ρ)
  | _ => none
theorem i_enum2 {n : MA} {elts : List Expr} {kk : Nat} (ha : JA Y [e] n) (hm : Y.mg "enumerate" = none) (hg : ∀ j, Gl (Y.X j) "enumerate" := by intro _; rfl) (hs : ∀ j, starEach [e] (Y.X j).env = [(false, eval e (Y.X j).env)] := by intro _; rfl) : JI Y (.Tuple elts kk tpos) (.Call (.Name "enumerate" p) [e] [] pos) (mEnum2 n) := by
  obtain ⟨t, pa, s⟩ := ha
  refine ⟨iEnumT Y.K t, fun j => by rw [← Y.hK j]; exact pi_enumT (hg j) (by rw [Y.hmg j]; exact hm) (pa j) (hs j), fun c σ ρ T H R re q => s c σ ρ T H _ re ?_⟩
  unfold mEnum2 at q
  split at q
  · rename_i ds ρ1 hn
    rw [hn]
    intro vs H1 hl r1
    obtain ⟨v, rfl⟩ := len1 hl
    obtain ⟨F, fp, f⟩ := r1
    have f : RelF Y.K c σ ρ1 ((v, .val (.list ds)) :: T) H1 F fp := f
    obtain ⟨p, us, rfl, h1, h2⟩ := f.top.lstAt
    exact ⟨p, us, rfl, .inl ⟨.inl (.inl (f.fh _ _ h1)), q _ _ _ walk_enum ⟨F, fp, f⟩⟩⟩
  · rename_i ds ρ1 hn
    rw [hn]
    intro vs H1 hl r1
    obtain ⟨v, rfl⟩ := len1 hl
    obtain ⟨F, fp, f⟩ := r1
    have f : RelF Y.K c σ ρ1 ((v, .val (.tuple ds)) :: T) H1 F fp := f
    obtain ⟨p, us, rfl, h1, h2⟩ := f.top.tupAt
    exact ⟨p, us, rfl, .inr ⟨same_tup f.fh h1, q _ _ _ walk_enumT ⟨F, fp, f⟩⟩⟩
  · exact q.elim
end
end Fj

set_option Elab.async false
set_option linter.all false
set_option maxRecDepth 100000
set_option maxHeartbeats 4000000
set_option autoImplicit false
/-! The least of rows of numbers. -/
namespace Fj
open PySem PySem.Spec PyProof.Rows L2
def minRow (n : List Int) (ns : List (List Int)) : List Int := ns.foldl (fun a y => if HT.lexLt y a = true then y else a) n
theorem lt_row : ∀ a b : List Int, decide (a < b) = HT.lexLt a b
  | [], [] => by simp [HT.lexLt]
  | [], y :: ys => by simp [HT.lexLt]
  | x :: xs, [] => by simp [HT.lexLt]
  | x :: xs, y :: ys => by
    rw [HT.lexLt_cons, ← lt_row xs ys]
    by_cases h : x = y
    · subst h
      rw [if_pos rfl]
      exact decide_eq_decide.mpr (by rw [List.cons_lt_cons_iff]; simp)
    · rw [if_neg h]
      exact decide_eq_decide.mpr (by rw [List.cons_lt_cons_iff]; simp [h])
theorem dataLt_row (a b : List Int) : PySem.W.dataLt (tupI a) (tupI b) = HT.lexLt a b := by
  rw [PySem.W.dataLt_tuple, ← lt_row]
  exact PySem.W.dataLt_ints a b
theorem minD_row : ∀ (ns : List (List Int)) (n : List Int), PySem.W.minD (tupI n) (ns.map tupI) = tupI (minRow n ns)
  | [], n => rfl
  | y :: ns, n => by
    have ih := minD_row ns (if HT.lexLt y n = true then y else n)
    unfold PySem.W.minD at ih ⊢
    rw [List.map_cons, List.foldl_cons, dataLt_row]
    have e : (if HT.lexLt y n = true then tupI y else tupI n) = tupI (if HT.lexLt y n = true then y else n) := by split <;> rfl
    rw [e]
    exact ih
theorem alike_row : ∀ a b : List Int, PySem.W.alikeAll (a.map .int) (b.map .int) = true
  | [], b => by
    cases b <;> simp [PySem.W.alikeAll]
  | x :: xs, [] => by simp [PySem.W.alikeAll]
  | x :: xs, y :: ys => by
    have := alike_row xs ys
    simp [PySem.W.alikeAll, PySem.W.alike, this]
theorem alike_rows (nss : List (List Int)) : PySem.W.AlikeAll (nss.map tupI) := by
  refine ⟨fun x hx y hy => ?_, fun x hx => ?_⟩
  · obtain ⟨a, _, rfl⟩ := List.mem_map.mp hx
    obtain ⟨b, _, rfl⟩ := List.mem_map.mp hy
    show PySem.W.alike (.tuple _) (.tuple _) = true
    unfold PySem.W.alike
    exact alike_row a b
  · obtain ⟨a, _, rfl⟩ := List.mem_map.mp hx
    intro z
    cases z
theorem lay_row (a : List Int) : PyData.canLay0 (tupI a) = true := by
  show PyData.canLay0 (.tuple _) = true
  unfold PyData.canLay0
  exact canLay_ints a
theorem lay_rows : ∀ nss : List (List Int), PyData.canLayAll0 (nss.map tupI) = true
  | [] => by simp [PyData.canLayAll0]
  | n :: nss => by
    rw [List.map_cons]
    unfold PyData.canLayAll0
    rw [lay_row, lay_rows nss]
    rfl
theorem depth_rows : ∀ nss : List (List Int), PyData.depthAll (nss.map tupI) ≤ 1
  | [] => Nat.zero_le _
  | n :: nss => by
    have := depth_rows nss
    rw [List.map_cons]
    unfold PyData.depthAll
    have e : PyData.depth (tupI n) = 1 := by
      show PyData.depth (.tuple _) = 1
      unfold PyData.depth
      rw [depth_ints]
    omega
def rMinT (K : PySem.W.Frag) : List V → Hp → VK → Prop := fun vs H Q => ∃ (a : Addr) (xs : List V) (n : List Int) (ns : List (List Int)), vs = [V.ref a] ∧ SqL K H a xs ∧ DpAll K H xs ((n :: ns).map tupI) ∧ ∀ x ∈ xs, (∀ m, TupI K H x m → m = minRow n ns) → Q x H
theorem cr_minT {X : Cx} (hc : X.calm = true) (hu : X.A.units + 65 < cLine) : CallR X (.builtin "min") (rMinT X.K) := by
  intro pins s σ H vs us Q I r h
  obtain ⟨a, xs, n, ns, rfl, hs, hx, q⟩ := h
  obtain ⟨its, rv, hl, hz⟩ := I.list hs
  rw [Vals.ref1 r]
  obtain ⟨as, hr⟩ := Dp.readsAll I _ _ its hx rv
  have hd := depth_rows (n :: ns)
  refine PySem.W.min_list_data (x := tupI n) (xs := ns.map tupI) (I.ok.hd hc) hl.isList (by simpa using hr) (alike_rows (n :: ns)) (by show X.A.units + 1 + PyData.depthAll ((n :: ns).map tupI) < cLine; omega) fun i v h' tk bs hv hread hk => ?_
  rw [minD_row] at hread
  have hv : its[i]? = some v := by simpa using hv
  have hi : i < xs.length := by
    rw [rv.length]
    exact (List.getElem?_eq_some_iff.mp hv).1
  obtain ⟨u, hu1, hu2⟩ := rv.get (List.getElem?_eq_getElem hi)
  rw [hv] at hu1
  cases hu1
  refine ⟨xs[i], H, I.kept (t' := tk) hk, hu2, q _ (List.getElem_mem ..) fun m hm => ?_⟩
  obtain ⟨t, et, ht⟩ := hm
  rw [et] at hu2
  have ev : v = Value.ref t := hu2
  subst ev
  have I' := I.kept (t' := tk) hk
  have hdp : Dp X.K H (.ref t) (tupI m) := .tup ht (by
    clear ht
    induction m with
    | nil => exact .nil
    | cons y m ih => exact .cons (.int y) ih)
  obtain ⟨as2, hr2⟩ := Dp.reads I' (tupI m) (.ref t) (.ref t) hdp rfl
  have e := (hr2.unique _ _ hread).1
  injection e with e
  have := congrArg intsD e
  rw [intsD_map, intsD_map] at this
  exact Option.some.inj this
/-- min of one list -/
def gMin1 : List PyData → Option Ent
  | [.list ds] => match tupsD ds with
    | some (n :: ns) => some (.val (tupI (minRow n ns)))
    | _ => none
  | _ => none
section
variable {Y : Fam}
theorem c_min1 : CallJ Y (.builtin "min") gMin1 := by
  refine ⟨rMinT Y.K, fun j => by rw [← Y.hK j]; exact cr_minT (Y.calm j) (units65 (Y.room j)), fun c σ ρ T H vs ds z Q hl r e q => ?_⟩
  unfold gMin1 at e
  split at e
  · split at e
    · rename_i n ns hn
      cases e
      have := tupsD_eq hn
      subst this
      obtain ⟨v, rfl⟩ := len1 hl
      obtain ⟨F, fp, f⟩ := r
      have f : RelF Y.K c σ ρ ((v, .val (.list ((n :: ns).map tupI))) :: T) H F fp := f
      obtain ⟨p, us, rfl, h1, h2⟩ := f.top.lstAt
      have hul : us.length = (n :: ns).length := by rw [h2.length, List.length_map]
      refine ⟨p, us, n, ns, rfl, .inl (.inl (f.fh _ _ h1)), (Rps.mono f.fh h2).dp (lay_rows _), fun x hx hm => ?_⟩
      obtain ⟨k, hk, e⟩ := List.getElem_of_mem hx
      have hd' : ((n :: ns).map tupI)[k]? = some (tupI ((n :: ns)[k]'(by omega))) := by
        rw [List.getElem?_map, List.getElem?_eq_getElem (by omega : k < (n :: ns).length)]
        rfl
      obtain ⟨x', hx', rx⟩ := h2.get hd'
      rw [List.getElem?_eq_getElem hk, e] at hx'
      cases hx'
      obtain ⟨t, et, ht⟩ := id rx.tupI
      have em := hm _ ⟨t, et, same_tup f.fh ht⟩
      rw [em] at rx
      exact q _ _ ⟨F, fp, f.popV.push rx⟩
    · cases e
  · cases e
end
end Fj

set_option Elab.async false
set_option linter.all false
set_option maxRecDepth 100000
set_option maxHeartbeats 4000000
set_option autoImplicit false
/-! Mirrors by what holds behind them. -/
namespace Fj
open PySem PySem.Spec PyProof.Rows L2

def ownOf : Ent → Option (Bool × Cell)
  | .own fr ce => some (fr, ce)
  | _ => none
def lstOf : Ent → Option (Bool × List PyData)
  | .own fr (.lst ds) => some (fr, ds)
  | _ => none
def dkOf (s : Nat) : Ent → Option (Bool × List Int × Int × Int)
  | .own fr (.deck s' l m t) => if s' = s then some (fr, l, m, t) else none
  | _ => none
def outOf : List Ent → Option Cell
  | .own false ce :: _ => some ce
  | _ => none
def listOf : PyData → Option (List PyData)
  | .list ds => some ds
  | _ => none
def intOf : PyData → Option Int
  | .int i => some i
  | _ => none
def boolOf : PyData → Option Bool
  | .bool b => some b
  | _ => none
def valOf : Ent → Option PyData
  | .val d => some d
  | _ => none
def scrOf : Ent → Option (List Int)
  | .scr ns => some ns
  | _ => none
def rowOf : PyData → Option (List PyData)
  | .list ds => some ds
  | .tuple ds => some ds
  | _ => none
def walkOf : PyData → Option (List PyData)
  | .list ds => some ds
  | .tuple ds => some ds
  | .str x => some (signsD x)
  | _ => none
/-- what a simplifier leaves alone -/
inductive Hid {α : Sort 1} (q : α) : Type where
  | mk : Hid q
def W {α β : Type} (r : Option (α × β)) (Q : α → β → Prop) (_ : Hid Q := .mk) : Prop := match r with
  | some (a, b) => Q a b
  | none => False
def W1 {α : Type} (r : Option α) (Q : α → Prop) (_ : Hid Q := .mk) : Prop := match r with
  | some a => Q a
  | none => False
theorem W_fn {α β : Type} {r : Option (α × β)} {Q Q' : α → β → Prop} (h : ∀ a b, Q a b = Q' a b) : W r Q = W r Q' := by
  rw [show Q = Q' from funext fun a => funext fun b => h a b]
theorem W1_fn {α : Type} {r : Option α} {Q Q' : α → Prop} (h : ∀ a, Q a = Q' a) : W1 r Q = W1 r Q' := by
  rw [show Q = Q' from funext fun a => h a]
theorem W.mono {α β : Type} {r : Option (α × β)} {Q Q' : α → β → Prop} (h : W r Q) (q : ∀ a b, Q a b → Q' a b) : W r Q' := by
  cases r with
  | none => exact h
  | some p => exact q _ _ h
theorem W1.mono {α : Type} {r : Option α} {Q Q' : α → Prop} (h : W1 r Q) (q : ∀ a, Q a → Q' a) : W1 r Q' := by
  cases r with
  | none => exact h
  | some p => exact q _ h
theorem W.at_ {α β : Type} {r : Option (α × β)} {Q : α → β → Prop} (h : W r Q) : ∃ a b, r = some (a, b) ∧ Q a b := by
  cases r with
  | none => exact h.elim
  | some p => exact ⟨_, _, rfl, h⟩
theorem W1.at_ {α : Type} {r : Option α} {Q : α → Prop} (h : W1 r Q) : ∃ a, r = some a ∧ Q a := by
  cases r with
  | none => exact h.elim
  | some p => exact ⟨_, rfl, h⟩
structure IfB (b : Bool) (X Y : Prop) (_ : Hid X := .mk) (_ : Hid Y := .mk) : Prop where
  mk ::
  t : b = true → X
  f : b = false → Y
theorem eq_t (p q : Prop) : p = IfB true p q := propext ⟨fun h => ⟨fun _ => h, (fun z => by cases z)⟩, fun h => h.t rfl⟩
theorem eq_f (p q : Prop) : q = IfB false p q := propext ⟨fun h => ⟨(fun z => by cases z), fun _ => h⟩, fun h => h.f rfl⟩
theorem IfB_true {X Y : Prop} : IfB true X Y = X := (eq_t X Y).symm
theorem IfB_false {X Y : Prop} : IfB false X Y = Y := (eq_f X Y).symm
section
variable {α β : Type} {ρ : En} {Q : PyData → En → Prop} {R : Bool → En → Prop} {S : Ent → En → Prop} {Z : Fl → Prop} {A : List PyData → En → Prop}
theorem W_some {a : α} {b : β} {Q : α → β → Prop} : W (some (a, b)) Q = Q a b := rfl
theorem W_none {Q : α → β → Prop} : W (none : Option (α × β)) Q = False := rfl
theorem W1_some {a : α} {Q : α → Prop} : W1 (some a) Q = Q a := rfl
theorem W1_none {Q : α → Prop} : W1 (none : Option α) Q = False := rfl
theorem W_ite {c : Prop} [Decidable c] {x y : Option (α × β)} {Q : α → β → Prop} : W (if c then x else y) Q = ((c → W x Q) ∧ (¬ c → W y Q)) := by
  by_cases h : c
  · rw [if_pos h]
    exact propext ⟨fun z => ⟨fun _ => z, fun w => absurd h w⟩, fun z => z.1 h⟩
  · rw [if_neg h]
    exact propext ⟨fun z => ⟨fun w => absurd w h, fun _ => z⟩, fun z => z.2 h⟩
theorem W1_ite {c : Prop} [Decidable c] {x y : Option α} {Q : α → Prop} : W1 (if c then x else y) Q = ((c → W1 x Q) ∧ (¬ c → W1 y Q)) := by
  by_cases h : c
  · rw [if_pos h]
    exact propext ⟨fun z => ⟨fun _ => z, fun w => absurd h w⟩, fun z => z.1 h⟩
  · rw [if_neg h]
    exact propext ⟨fun z => ⟨fun w => absurd w h, fun _ => z⟩, fun z => z.2 h⟩
theorem W1_if {c : Prop} [Decidable c] {x : α} {Q : α → Prop} : W1 (if c then some x else none) Q = (c ∧ Q x) := by
  by_cases h : c
  · rw [if_pos h]
    exact propext ⟨fun z => ⟨h, z⟩, fun z => z.2⟩
  · rw [if_neg h]
    exact propext ⟨fun z => z.elim, fun z => absurd z.1 h⟩
theorem w_C {d : PyData} : W (mC d ρ) Q = Q d ρ := rfl
theorem w_var {i : Nat} : W (mVar i ρ) Q = W1 ρ[i]? fun e => W1 (valOf e) fun d => Q d ρ := by
  unfold mVar
  cases h : ρ[i]? with
  | none => rfl
  | some e => cases e <;> rfl
theorem w_fz {m : MO} : W (mFz m ρ) Q = W (m ρ) fun e ρ => W1 (fz e) fun d => Q d ρ := by
  unfold mFz
  cases m ρ with
  | none => rfl
  | some p =>
    obtain ⟨e, ρ⟩ := p
    show W ((fz e).map fun d => (d, ρ)) Q = W1 (fz e) _
    cases fz e <;> rfl
theorem w_val {m : MV} : W (mVal m ρ) S = W (m ρ) fun d ρ => S (.val d) ρ := by
  unfold mVal
  cases m ρ <;> rfl
theorem w_bin {g : PyData → PyData → Option PyData} {a b : MV} : W (mBin g a b ρ) Q = W (a ρ) fun x ρ => W (b ρ) fun y ρ => W1 (g x y) fun z => Q z ρ := by
  unfold mBin
  cases a ρ with
  | none => rfl
  | some p =>
    obtain ⟨x, ρ⟩ := p
    show W (match b ρ with
      | none => none
      | some (y, ρ) => (g x y).map fun z => (z, ρ)) Q = W (b ρ) _
    cases b ρ with
    | none => rfl
    | some p =>
      obtain ⟨y, ρ⟩ := p
      show W ((g x y).map fun z => (z, ρ)) Q = W1 (g x y) _
      cases g x y <;> rfl
theorem w_test {m : MV} : W (mTest m ρ) R = W (m ρ) fun d ρ => W1 (boolOf d) fun b => R b ρ := by
  unfold mTest
  cases m ρ with
  | none => rfl
  | some p =>
    obtain ⟨d, ρ⟩ := p
    cases d <;> rfl
theorem w_tnot {m : MT} : W (mTNot m ρ) R = W (m ρ) fun b ρ => R (!b) ρ := by
  unfold mTNot
  cases m ρ <;> rfl
theorem w_tand {m n : MT} : W (mTAnd m n ρ) R = W (m ρ) fun b ρ => IfB b (W (n ρ) R) (R false ρ) := by
  unfold mTAnd
  cases m ρ with
  | none => rfl
  | some p =>
    obtain ⟨b, ρ⟩ := p
    cases b <;> first | exact eq_t _ _ | exact eq_f _ _
theorem w_tor {m n : MT} : W (mTOr m n ρ) R = W (m ρ) fun b ρ => IfB b (R true ρ) (W (n ρ) R) := by
  unfold mTOr
  cases m ρ with
  | none => rfl
  | some p =>
    obtain ⟨b, ρ⟩ := p
    cases b <;> first | exact eq_t _ _ | exact eq_f _ _
theorem w_not {m : MV} : W (mNot m ρ) Q = W (m ρ) fun d ρ => W1 (boolOf d) fun b => Q (.bool (!b)) ρ := by
  unfold mNot
  cases m ρ with
  | none => rfl
  | some p =>
    obtain ⟨d, ρ⟩ := p
    cases d <;> rfl
theorem w_andV {m n : MV} : W (mAnd m n ρ) Q = W (m ρ) fun d ρ => W1 (boolOf d) fun b => IfB b (W (n ρ) Q) (Q (.bool false) ρ) := by
  unfold mAnd
  cases m ρ with
  | none => rfl
  | some p =>
    obtain ⟨d, ρ⟩ := p
    cases d with
    | bool b => cases b <;> first | exact eq_t _ _ | exact eq_f _ _
    | _ => rfl
theorem w_orV {m n : MV} : W (mOr m n ρ) Q = W (m ρ) fun d ρ => W1 (boolOf d) fun b => IfB b (Q (.bool true) ρ) (W (n ρ) Q) := by
  unfold mOr
  cases m ρ with
  | none => rfl
  | some p =>
    obtain ⟨d, ρ⟩ := p
    cases d with
    | bool b => cases b <;> first | exact eq_t _ _ | exact eq_f _ _
    | _ => rfl
theorem w_if {t : MT} {m n : En → Option (α × β)} {Q : α → β → Prop} : W (mIf t m n ρ) Q = W (t ρ) fun b ρ => IfB b (W (m ρ) Q) (W (n ρ) Q) := by
  unfold mIf
  cases t ρ with
  | none => rfl
  | some p =>
    obtain ⟨b, ρ⟩ := p
    cases b <;> first | exact eq_t _ _ | exact eq_f _ _
theorem w_ifS {t : MT} {m n : MS} : W1 (mIf t m n ρ) Z = W (t ρ) fun b ρ => IfB b (W1 (m ρ) Z) (W1 (n ρ) Z) := by
  unfold mIf
  cases t ρ with
  | none => rfl
  | some p =>
    obtain ⟨b, ρ⟩ := p
    cases b <;> first | exact eq_t _ _ | exact eq_f _ _
theorem w_chain {g g' : PyData → PyData → Option PyData} {a b c : MV} : W (mChain g g' a b c ρ) Q = W (a ρ) fun x ρ => W (b ρ) fun y ρ => W1 (g x y) fun r => W1 (boolOf r) fun k => IfB k (W (c ρ) fun z ρ => W1 (g' y z) fun r => Q r ρ) (Q (.bool false) ρ) := by
  unfold mChain
  cases a ρ with
  | none => rfl
  | some p =>
    obtain ⟨x, ρ⟩ := p
    simp only [W_some]
    cases b ρ with
    | none => rfl
    | some p =>
      obtain ⟨y, ρ⟩ := p
      simp only [W_some]
      cases g x y with
      | none => rfl
      | some r =>
        cases r with
        | bool k =>
          cases k with
          | false => exact propext ⟨fun h => ⟨(fun z => by cases z), fun _ => h⟩, fun h => h.2 rfl⟩
          | true =>
            refine propext ⟨fun h => ⟨fun _ => ?_, (fun z => by cases z)⟩, fun h => ?_⟩
            · cases hc : c ρ with
              | none => rw [hc] at h; exact h
              | some p =>
                rw [hc] at h
                obtain ⟨z, ρ⟩ := p
                simp only [W_some] at h ⊢
                cases hg : g' y z with
                | none => rw [hg] at h; exact h
                | some r => rw [hg] at h; exact h
            · have h := h.1 rfl
              cases hc : c ρ with
              | none => rw [hc] at h; exact h
              | some p =>
                rw [hc] at h
                obtain ⟨z, ρ⟩ := p
                simp only [W_some] at h ⊢
                cases hg : g' y z with
                | none => rw [hg] at h; exact h
                | some r => rw [hg] at h; exact h
        | _ => rfl
theorem w_nil : W (mNil ρ) A = A [] ρ := rfl
theorem w_cons {m : MV} {n : MA} : W (mCons m n ρ) A = W (m ρ) fun d ρ => W (n ρ) fun ds ρ => A (d :: ds) ρ := by
  unfold mCons
  cases m ρ with
  | none => rfl
  | some p =>
    obtain ⟨d, ρ⟩ := p
    simp only [W_some]
    cases n ρ <;> rfl
theorem w_tup {n : MA} : W (mTup n ρ) Q = W (n ρ) fun ds ρ => ds.length ≤ 100000 ∧ Q (.tuple ds) ρ := by
  unfold mTup
  cases n ρ with
  | none => rfl
  | some p =>
    obtain ⟨ds, ρ⟩ := p
    show W (if ds.length ≤ 100000 then some (.tuple ds, ρ) else none) Q = (ds.length ≤ 100000 ∧ Q (.tuple ds) ρ)
    by_cases h : ds.length ≤ 100000
    · rw [if_pos h]
      exact propext ⟨fun z => ⟨h, z⟩, fun z => z.2⟩
    · rw [if_neg h]
      exact propext ⟨fun z => z.elim, fun z => absurd z.1 h⟩
theorem w_lst {n : MA} : W (mLst n ρ) S = W (n ρ) fun ds ρ => ds.length ≤ 100000 ∧ S (.own true (.lst ds)) ρ := by
  unfold mLst
  cases n ρ with
  | none => rfl
  | some p =>
    obtain ⟨ds, ρ⟩ := p
    show W (if ds.length ≤ 100000 then some (.own true (.lst ds), ρ) else none) S = (ds.length ≤ 100000 ∧ S (.own true (.lst ds)) ρ)
    by_cases h : ds.length ≤ 100000
    · rw [if_pos h]
      exact propext ⟨fun z => ⟨h, z⟩, fun z => z.2⟩
    · rw [if_neg h]
      exact propext ⟨fun z => z.elim, fun z => absurd z.1 h⟩
theorem w_cat {a b : MV} : W (mCat a b ρ) S = W (a ρ) fun x ρ => W (b ρ) fun y ρ => ∃ xs ys, x = .list xs ∧ y = .list ys ∧ xs.length + ys.length ≤ 100000 ∧ S (.own true (.lst (xs ++ ys))) ρ := by
  unfold mCat
  cases a ρ with
  | none => rfl
  | some p =>
    obtain ⟨x, ρ⟩ := p
    simp only [W_some]
    cases b ρ with
    | none => rfl
    | some p =>
      obtain ⟨y, ρ⟩ := p
      simp only [W_some]
      cases x with
      | list xs =>
        cases y with
        | list ys =>
          refine propext ⟨fun h => ?_, fun ⟨xs, ys, e1, e2, h1, h2⟩ => ?_⟩
          · simp only at h
            split at h
            · rename_i hl
              exact ⟨xs, ys, rfl, rfl, hl, h⟩
            · exact h.elim
          · cases e1
            cases e2
            simp only [h1, if_true]
            exact h2
        | _ => exact propext ⟨fun h => h.elim, fun ⟨xs, ys, e1, e2, h1, h2⟩ => by cases e2⟩
      | _ => exact propext ⟨fun h => h.elim, fun ⟨xs, ys, e1, e2, h1, h2⟩ => by cases e1⟩
theorem w_p0 {B : Option Int → En → Prop} : W (mP0 ρ) B = B none ρ := rfl
theorem w_p1 {m : MV} {B : Option Int → En → Prop} : W (mP1 m ρ) B = W (m ρ) fun d ρ => W1 (intOf d) fun i => B (some i) ρ := by
  unfold mP1
  cases m ρ with
  | none => rfl
  | some p =>
    obtain ⟨d, ρ⟩ := p
    cases d <;> rfl
theorem w_sl {m : MV} {l h : MP} : W (mSl m l h ρ) S = W (m ρ) fun d ρ => W (l ρ) fun lo ρ => W (h ρ) fun hi ρ => W1 (gSl d lo hi) fun z => S z ρ := by
  unfold mSl
  cases m ρ with
  | none => rfl
  | some p =>
    obtain ⟨d, ρ⟩ := p
    simp only [W_some]
    cases l ρ with
    | none => rfl
    | some p =>
      obtain ⟨lo, ρ⟩ := p
      simp only [W_some]
      cases h ρ with
      | none => rfl
      | some p =>
        obtain ⟨hi, ρ⟩ := p
        simp only [W_some]
        cases gSl d lo hi <;> rfl
theorem w_rev {m : MV} : W (mRev m ρ) S = W (m ρ) fun d ρ => W1 (listOf d) fun ds => S (.own true (.lst ds.reverse)) ρ := by
  unfold mRev
  cases m ρ with
  | none => rfl
  | some p =>
    obtain ⟨d, ρ⟩ := p
    cases d <;> rfl
theorem w_neg {m : MV} : W (mNeg m ρ) Q = W (m ρ) fun d ρ => W1 (intOf d) fun i => Q (.int (-i)) ρ := by
  unfold mNeg
  cases m ρ with
  | none => rfl
  | some p =>
    obtain ⟨d, ρ⟩ := p
    cases d <;> rfl
theorem w_scrSl {i : Nat} {l h : MP} : W (mScrSl i l h ρ) S = W1 ρ[i]? fun e => W1 (scrOf e) fun ns => W (l ρ) fun lo ρ => W (h ρ) fun hi ρ => S (.own true (.lst (cutD (ns.map .int) lo hi))) ρ := by
  unfold mScrSl
  cases ρ[i]? with
  | none => rfl
  | some e =>
    cases e with
    | scr ns =>
      simp only [W1_some]
      cases l ρ with
      | none => rfl
      | some p =>
        obtain ⟨lo, ρ⟩ := p
        simp only [W_some]
        cases h ρ <;> rfl
    | _ => rfl
theorem w_cb {g : List PyData → Option Ent} {n : MA} : W (mCB g n ρ) S = W (n ρ) fun ds ρ => W1 (g ds) fun z => S z ρ := by
  unfold mCB
  cases n ρ with
  | none => rfl
  | some p =>
    obtain ⟨ds, ρ⟩ := p
    simp only [W_some]
    cases g ds <;> rfl
theorem w_isi {T : String} {m : MV} : W (mIsi T m ρ) Q = W (m ρ) fun d ρ => W1 (kitB (tyN d) T) fun b => Q (.bool b) ρ := by
  unfold mIsi
  cases m ρ with
  | none => rfl
  | some p =>
    obtain ⟨d, ρ⟩ := p
    simp only [W_some]
    cases kitB (tyN d) T <;> rfl
theorem w_it {m : MV} : W (mIt m ρ) A = W (m ρ) fun d ρ => W1 (walkOf d) fun ds => A ds ρ := by
  unfold mIt
  cases m ρ with
  | none => rfl
  | some p =>
    obtain ⟨d, ρ⟩ := p
    cases d <;> rfl
theorem w_r1 {n : MA} : W (mR1 n ρ) A = W (n ρ) fun ds ρ => ∃ j, ds = [.int j] ∧ (-(2 ^ 62) ≤ j ∧ j < 2 ^ 62) ∧ A (rngD 0 j.toNat) ρ := by
  unfold mR1
  cases n ρ with
  | none => rfl
  | some p =>
    obtain ⟨ds, ρ⟩ := p
    simp only [W_some]
    refine propext ⟨fun h => ?_, fun ⟨j, e, h1, h2⟩ => ?_⟩
    · split at h
      · rename_i j _ hh
        cases hh
        split at h
        · rename_i hl
          exact ⟨j, rfl, hl, h⟩
        · exact h.elim
      · exact h.elim
    · subst e
      have h1 : R1ok j := h1
      simp only [if_pos h1]
      exact h2
theorem w_r2 {n : MA} : W (mR2 n ρ) A = W (n ρ) fun ds ρ => ∃ i j, ds = [.int i, .int j] ∧ (-(2 ^ 62) ≤ i ∧ i < 2 ^ 62 ∧ -(2 ^ 62) ≤ j ∧ j < 2 ^ 62) ∧ A (rngD i (j - i).toNat) ρ := by
  unfold mR2
  cases n ρ with
  | none => rfl
  | some p =>
    obtain ⟨ds, ρ⟩ := p
    simp only [W_some]
    refine propext ⟨fun h => ?_, fun ⟨i, j, e, h1, h2⟩ => ?_⟩
    · split at h
      · rename_i i j _ hh
        cases hh
        split at h
        · rename_i hl
          exact ⟨i, j, rfl, hl, h⟩
        · exact h.elim
      · exact h.elim
    · subst e
      have h1 : R2ok i j := h1
      simp only [if_pos h1]
      exact h2
theorem w_enum {n : MA} : W (mEnum n ρ) A = W (n ρ) fun ds ρ => ∃ xs, ds = [.list xs] ∧ A (enumD 0 xs) ρ := by
  unfold mEnum
  cases n ρ with
  | none => rfl
  | some p =>
    obtain ⟨ds, ρ⟩ := p
    simp only [W_some]
    refine propext ⟨fun h => ?_, fun ⟨xs, e, h2⟩ => ?_⟩
    · split at h
      · rename_i xs _ hh
        cases hh
        exact ⟨xs, rfl, h⟩
      · exact h.elim
    · subst e
      exact h2
-- targets
theorem w_N {i : Nat} {d : PyData} {B : En → Prop} : W1 (mN i d ρ) B = (freeE ρ i = true ∧ B (ρ.set i (.val d))) := by
  unfold mN
  exact W1_if
theorem w_N0 {B : En → Prop} : W1 (mN0 [] ρ) B = B ρ := rfl
theorem w_N1 {m : MG} {n : List PyData → En → Option En} {d : PyData} {ds : List PyData} {B : En → Prop} : W1 (mN1 m n (d :: ds) ρ) B = W1 (m d ρ) fun ρ => W1 (n ds ρ) B := by
  show W1 ((m d ρ).bind fun ρ => n ds ρ) B = _
  cases m d ρ <;> rfl
theorem w_TupG {k : Nat} {n : List PyData → En → Option En} {d : PyData} {B : En → Prop} : W1 (mTupG k n d ρ) B = W1 (rowOf d) fun ds => ds.length = k ∧ W1 (n ds ρ) B := by
  unfold mTupG
  cases d with
  | tuple ds =>
    show W1 (if ds.length = k then n ds ρ else none) B = (ds.length = k ∧ W1 (n ds ρ) B)
    by_cases h : ds.length = k
    · rw [if_pos h]
      exact propext ⟨fun z => ⟨h, z⟩, fun z => z.2⟩
    · rw [if_neg h]
      exact propext ⟨fun z => z.elim, fun z => absurd z.1 h⟩
  | list ds =>
    show W1 (if ds.length = k then n ds ρ else none) B = (ds.length = k ∧ W1 (n ds ρ) B)
    by_cases h : ds.length = k
    · rw [if_pos h]
      exact propext ⟨fun z => ⟨h, z⟩, fun z => z.2⟩
    · rw [if_neg h]
      exact propext ⟨fun z => z.elim, fun z => absurd z.1 h⟩
  | _ => rfl
-- statements
theorem w_nx : W1 (mNx ρ) Z = Z (.nx ρ) := rfl
def nxt (Q : En → Prop) (Z : Fl → Prop) : Fl → Prop
  | .nx ρ => Q ρ
  | f => Z f
theorem nxt_nx {Q : En → Prop} : nxt Q Z (.nx ρ) = Q ρ := rfl
theorem nxt_rt {Q : En → Prop} {e : Ent} : nxt Q Z (.rt e ρ) = Z (.rt e ρ) := rfl
theorem nxt_bk {Q : En → Prop} : nxt Q Z (.bk ρ) = Z (.bk ρ) := rfl
theorem nxt_ct {Q : En → Prop} : nxt Q Z (.ct ρ) = Z (.ct ρ) := rfl
theorem w_seq {m n : MS} : W1 (mSeq m n ρ) Z = W1 (m ρ) (nxt (fun ρ => W1 (n ρ) Z) Z) := by
  unfold mSeq
  cases m ρ with
  | none => rfl
  | some f => cases f <;> rfl
theorem w_frz {i : Nat} {m : MS} : W1 (mFrz i m ρ) Z = W1 (m (frz i ρ)) Z := rfl
theorem w_asg {m : MV} {g : MG} : W1 (mAsg m g ρ) Z = W (m ρ) fun d ρ => W1 (g d ρ) fun ρ => Z (.nx ρ) := by
  unfold mAsg
  cases m ρ with
  | none => rfl
  | some p =>
    obtain ⟨d, ρ⟩ := p
    simp only [W_some]
    cases g d ρ <;> rfl
theorem w_own {m : MO} {i : Nat} : W1 (mOwn m i ρ) Z = W (m ρ) fun e ρ => freeE ρ i = true ∧ Z (.nx (ρ.set i e)) := by
  unfold mOwn
  cases m ρ with
  | none => rfl
  | some p =>
    obtain ⟨d, ρ⟩ := p
    simp only [W_some]
    exact W1_if
theorem w_ret {m : MO} : W1 (mRet m ρ) Z = W (m ρ) fun e ρ => Z (.rt e ρ) := by
  unfold mRet
  cases m ρ <;> rfl
theorem w_drop {m : MO} : W1 (mDrop m ρ) Z = W (m ρ) fun _ ρ => Z (.nx ρ) := by
  unfold mDrop
  cases m ρ <;> rfl
theorem w_bad : W1 (mBad ρ) Z = False := rfl
theorem w_for {n : MI} {g : MG} {m : MS} : W1 (mFor n g m ρ) Z = W (n ρ) fun ds ρ => W1 (forL g m ds ρ) Z := by
  unfold mFor
  cases n ρ <;> rfl
theorem w_app {j : Nat} {m : MV} : W (mApp j m ρ) S = W1 ρ[j]? fun e => (match e with | .own _ (.lst _) => True | _ => False) ∧ W (m ρ) fun d ρ => W1 ρ[j]? fun e => ∃ fr ds, e = .own fr (.lst ds) ∧ ds.length < 100000 ∧ S (.val .none) (ρ.set j (.own fr (.lst (ds ++ [d])))) := by
  unfold mApp
  cases ρ[j]? with
  | none => rfl
  | some e =>
    cases e with
    | own fr ce =>
      cases ce with
      | lst ds =>
        simp only [W1_some, true_and]
        cases m ρ with
        | none => rfl
        | some p =>
          obtain ⟨d, ρ⟩ := p
          simp only [W_some]
          cases ρ[j]? with
          | none => rfl
          | some e =>
            refine propext ⟨fun h => ?_, fun h => ?_⟩
            · simp only [W1_some]
              split at h
              · rename_i fr ds hh
                cases hh
                split at h
                · rename_i hl
                  exact ⟨fr, ds, rfl, hl, h⟩
                · exact h.elim
              · exact h.elim
            · obtain ⟨fr, ds, rfl, hl, h⟩ := h
              simp only [hl, if_true]
              exact h
      | _ => exact propext ⟨fun h => h.elim, fun h => h.1.elim⟩
    | _ => exact propext ⟨fun h => h.elim, fun h => h.1.elim⟩
theorem w_ext {j : Nat} {m : MV} : W (mExt j m ρ) S = W1 ρ[j]? fun e => (match e with | .own _ (.lst _) => True | _ => False) ∧ W (m ρ) fun d ρ => W1 (listOf d) fun es => W1 ρ[j]? fun e => ∃ fr ds, e = .own fr (.lst ds) ∧ ds.length + es.length ≤ 100000 ∧ S (.val .none) (ρ.set j (.own fr (.lst (ds ++ es)))) := by
  unfold mExt
  cases ρ[j]? with
  | none => rfl
  | some e =>
    cases e with
    | own fr ce =>
      cases ce with
      | lst ds =>
        simp only [W1_some, true_and]
        cases m ρ with
        | none => rfl
        | some p =>
          obtain ⟨d, ρ⟩ := p
          simp only [W_some]
          cases d with
          | list es =>
            simp only [W1_some]
            cases ρ[j]? with
            | none => rfl
            | some e =>
              refine propext ⟨fun h => ?_, fun h => ?_⟩
              · simp only [W1_some]
                split at h
                · rename_i fr ds hh
                  cases hh
                  split at h
                  · rename_i hl
                    exact ⟨fr, ds, rfl, hl, h⟩
                  · exact h.elim
                · exact h.elim
              · obtain ⟨fr, ds, rfl, hl, h⟩ := h
                simp only [hl, if_true]
                exact h
          | _ => rfl
      | _ => exact propext ⟨fun h => h.elim, fun h => h.1.elim⟩
    | _ => exact propext ⟨fun h => h.elim, fun h => h.1.elim⟩
-- calls
def endF (ins : List Ent) (S : Ent → List Ent → Prop) : Fl → Prop
  | .rt e ρ => S e (outsE ins ρ)
  | .nx ρ => S (.val .none) (outsE ins ρ)
  | _ => False
theorem endF_rt {ins : List Ent} {S : Ent → List Ent → Prop} {e : Ent} : endF ins S (.rt e ρ) = S e (outsE ins ρ) := rfl
theorem endF_nx {ins : List Ent} {S : Ent → List Ent → Prop} : endF ins S (.nx ρ) = S (.val .none) (outsE ins ρ) := rfl
theorem w_fn {n : Nat} {body : MS} {ins : List Ent} {S : Ent → List Ent → Prop} : W (mFn n body ins) S = W1 (body (ins ++ List.replicate (n - ins.length) Ent.no)) (endF ins S) := by
  unfold mFn
  cases body (ins ++ List.replicate (n - ins.length) Ent.no) with
  | none => rfl
  | some f => cases f <;> rfl
theorem w_call {f : MF} {p : List Nat} {dd : List PyData} {n nk : MA} : W (mCall f p dd n nk ρ) S = W (n ρ) fun ds ρ => W (nk ρ) fun es ρ => W (f ((pick p (ds ++ es ++ dd)).map .val)) fun e _ => resE e = true ∧ S e ρ := by
  unfold mCall
  cases n ρ with
  | none => rfl
  | some z =>
    obtain ⟨ds, ρ⟩ := z
    simp only [W_some]
    cases nk ρ with
    | none => rfl
    | some z =>
      obtain ⟨es, ρ⟩ := z
      simp only [W_some]
      cases f ((pick p (ds ++ es ++ dd)).map .val) with
      | none => rfl
      | some z =>
        obtain ⟨e, o⟩ := z
        simp only [W_some]
        by_cases h : resE e = true
        · rw [if_pos h]
          exact propext ⟨fun z => ⟨h, z⟩, fun z => z.2⟩
        · rw [if_neg h]
          exact propext ⟨fun z => z.elim, fun z => absurd z.1 h⟩
theorem w_lend {i : Nat} {f : MF} {p : List Nat} {dd : List PyData} {n nk : MA} : W (mLend i f p dd n nk ρ) S = W1 ρ[i]? fun e => (match e with | .own _ _ => True | _ => False) ∧ W (n ρ) fun ds ρ => W (nk ρ) fun es ρ => W1 ρ[i]? fun e => ∃ fr ce, e = .own fr ce ∧
    W (f (.own false ce :: (pick p (ds ++ es ++ dd)).map .val)) fun e o => ∃ ce' r, o = .own false ce' :: r ∧ resE e = true ∧ S e (ρ.set i (.own fr ce')) := by
  unfold mLend
  cases ρ[i]? with
  | none => rfl
  | some e =>
    cases e with
    | own fr ce =>
      simp only [W1_some, true_and]
      cases n ρ with
      | none => rfl
      | some z =>
        obtain ⟨ds, ρ⟩ := z
        simp only [W_some]
        cases nk ρ with
        | none => rfl
        | some z =>
          obtain ⟨es, ρ⟩ := z
          simp only [W_some]
          cases ρ[i]? with
          | none => rfl
          | some e =>
            simp only [W1_some]
            cases e with
            | own fr ce =>
              simp only
              cases hf : f (.own false ce :: (pick p (ds ++ es ++ dd)).map .val) with
              | none =>
                refine propext ⟨fun z => z.elim, fun ⟨fr', ce', e, h⟩ => ?_⟩
                cases e
                rw [hf] at h
                exact h.elim
              | some z =>
                obtain ⟨e, o⟩ := z
                refine propext ⟨fun h => ⟨fr, ce, rfl, ?_⟩, fun ⟨fr', ce', e', h⟩ => ?_⟩
                · rw [hf]
                  split at h
                  · rename_i e1 ce' r hh
                    cases hh
                    split at h
                    · rename_i hr
                      exact ⟨ce', r, rfl, hr, h⟩
                    · exact h.elim
                  · exact h.elim
                · cases e'
                  rw [hf] at h
                  obtain ⟨ce', r, rfl, hr, h⟩ := h
                  simp only [hr, if_true]
                  exact h
            | _ => exact propext ⟨fun z => z.elim, fun ⟨fr', ce', e, h⟩ => by cases e⟩
    | _ => exact propext ⟨fun h => h.elim, fun h => h.1.elim⟩
theorem w_scr {i : Nat} {f : MF} : W (mScr i f ρ) S = W1 ρ[i]? fun e => W1 (scrOf e) fun ns => W (f [.scr ns]) fun e _ => resE e = true ∧ S e ρ := by
  unfold mScr
  cases ρ[i]? with
  | none => rfl
  | some e =>
    cases e with
    | scr ns =>
      simp only [W1_some, scrOf]
      cases f [.scr ns] with
      | none => rfl
      | some z =>
        obtain ⟨e, o⟩ := z
        simp only [W_some]
        by_cases h : resE e = true
        · rw [if_pos h]
          exact propext ⟨fun z => ⟨h, z⟩, fun z => z.2⟩
        · rw [if_neg h]
          exact propext ⟨fun z => z.elim, fun z => absurd z.1 h⟩
    | _ => rfl
theorem w_bor {m : MO} : W (mBor m ρ) S = (borOk ρ = true ∧ W (m (ρ.map borS)) fun e ρ2 => nlE e = true ∧ dkKept ρ ρ2 = true ∧ S e (merE ρ ρ2)) := by
  unfold mBor
  by_cases h : borOk ρ = true
  · rw [if_pos h]
    cases hm : m (ρ.map borS) with
    | none => exact propext ⟨fun z => z.elim, fun z => z.2.elim⟩
    | some z =>
      obtain ⟨e, ρ2⟩ := z
      refine propext ⟨fun z => ⟨h, ?_⟩, fun z => ?_⟩
      · simp only at z
        split at z
        · rename_i hh
          exact ⟨hh.1, hh.2, z⟩
        · exact z.elim
      · obtain ⟨_, h1, h2, h3⟩ := z
        simp only [h1, h2, and_self, if_true]
        exact h3
  · rw [if_neg h]
    exact propext ⟨fun z => z.elim, fun z => absurd z.1 h⟩
theorem w_borT {m : MT} : W (mBorT m ρ) R = (borOk ρ = true ∧ W (m (ρ.map borS)) fun e ρ2 => dkKept ρ ρ2 = true ∧ R e (merE ρ ρ2)) := by
  unfold mBorT
  by_cases h : borOk ρ = true
  · rw [if_pos h]
    cases hm : m (ρ.map borS) with
    | none => exact propext ⟨fun z => z.elim, fun z => z.2.elim⟩
    | some z =>
      obtain ⟨e, ρ2⟩ := z
      refine propext ⟨fun z => ⟨h, ?_⟩, fun z => ?_⟩
      · simp only at z
        split at z
        · rename_i hh
          exact ⟨hh, z⟩
        · exact z.elim
      · obtain ⟨_, h1, h2⟩ := z
        simp only [h1, if_true]
        exact h2
  · rw [if_neg h]
    exact propext ⟨fun z => z.elim, fun z => absurd z.1 h⟩
theorem w_lc {n : MI} {g : MG} {t : MT} {m : MV} {vs : List Nat} : W (mLc n g t m vs ρ) S = W (n ρ) fun ds ρ => vs.all (freeE ρ) = true ∧ W (lcL g t m vs ds [] (wipeE ρ vs)) fun ys ρ => S (.own true (.lst ys)) ρ := by
  unfold mLc
  cases n ρ with
  | none => rfl
  | some z =>
    obtain ⟨ds, ρ⟩ := z
    simp only [W_some]
    by_cases h : vs.all (freeE ρ) = true
    · rw [if_pos h]
      cases lcL g t m vs ds [] (wipeE ρ vs) with
      | none => exact propext ⟨fun z => z.elim, fun z => z.2.elim⟩
      | some p => exact propext ⟨fun z => ⟨h, z⟩, fun z => z.2⟩
    · rw [if_neg h]
      exact propext ⟨fun z => z.elim, fun z => absurd z.1 h⟩
theorem w_move {i : Nat} : W (mMove i ρ) S = W1 ρ[i]? fun e => (∃ d, e = .val d ∧ S (.val d) ρ) ∨ ∃ ce, e = .own true ce ∧ S (.own true ce) (ρ.set i .lent) := by
  unfold mMove
  cases ρ[i]? with
  | none => rfl
  | some e =>
    refine propext ⟨fun h => ?_, fun h => ?_⟩
    · split at h
      · rename_i d hh
        cases hh
        exact .inl ⟨d, rfl, h⟩
      · rename_i ce hh
        cases hh
        exact .inr ⟨ce, rfl, h⟩
      · exact h.elim
    · rcases h with ⟨d, rfl, h⟩ | ⟨ce, rfl, h⟩ <;> exact h
theorem w_ownV {m : MV} {i : Nat} : W1 (mOwnV m i ρ) Z = W (m ρ) fun d ρ => freeE ρ i = true ∧ Z (.nx (ρ.set i (.val d))) := by
  unfold mOwnV
  rw [w_own, w_val]
theorem w_yes : W (mYes ρ) R = R true ρ := rfl
-- decks
theorem w_dkM {s i : Nat} : W (mDkM s i ρ) Q = W1 ρ[i]? fun e => ∃ fr l m t, e = .own fr (.deck s l m t) ∧ Q (.int m) ρ := by
  unfold mDkM
  cases ρ[i]? with
  | none => rfl
  | some e =>
    refine propext ⟨fun h => ?_, fun h => ?_⟩
    · split at h
      · rename_i fr s1 l m t hh
        cases hh
        split at h
        · rename_i hs
          subst hs
          exact ⟨fr, l, m, t, rfl, h⟩
        · exact h.elim
      · exact h.elim
    · obtain ⟨fr, l, m, t, rfl, h⟩ := h
      simp only [if_true]
      exact h
theorem w_dkT {s i : Nat} : W (mDkT s i ρ) Q = W1 ρ[i]? fun e => ∃ fr l m t, e = .own fr (.deck s l m t) ∧ Q (.int t) ρ := by
  unfold mDkT
  cases ρ[i]? with
  | none => rfl
  | some e =>
    refine propext ⟨fun h => ?_, fun h => ?_⟩
    · split at h
      · rename_i fr s1 l m t hh
        cases hh
        split at h
        · rename_i hs
          subst hs
          exact ⟨fr, l, m, t, rfl, h⟩
        · exact h.elim
      · exact h.elim
    · obtain ⟨fr, l, m, t, rfl, h⟩ := h
      simp only [if_true]
      exact h
theorem w_dkL {s i : Nat} : W (mDkL s i ρ) R = W1 ρ[i]? fun e => ∃ fr l m t, e = .own fr (.deck s l m t) ∧ R (!l.isEmpty) ρ := by
  unfold mDkL
  cases ρ[i]? with
  | none => rfl
  | some e =>
    refine propext ⟨fun h => ?_, fun h => ?_⟩
    · split at h
      · rename_i fr s1 l m t hh
        cases hh
        split at h
        · rename_i hs
          subst hs
          exact ⟨fr, l, m, t, rfl, h⟩
        · exact h.elim
      · exact h.elim
    · obtain ⟨fr, l, m, t, rfl, h⟩ := h
      simp only [if_true]
      exact h
theorem w_dkPop {s i : Nat} : W (mDkPop s i ρ) Q = W1 ρ[i]? fun e => ∃ fr l m t, e = .own fr (.deck s l m t) ∧ ∃ x, l.getLast? = some x ∧ Q (.int x) (ρ.set i (.own fr (.deck s l.dropLast m t))) := by
  unfold mDkPop
  cases ρ[i]? with
  | none => rfl
  | some e =>
    refine propext ⟨fun h => ?_, fun h => ?_⟩
    · split at h
      · rename_i fr s1 l m t hh
        cases hh
        split at h
        · rename_i hs
          subst hs
          split at h
          · rename_i x hx
            exact ⟨fr, l, m, t, rfl, x, hx, h⟩
          · exact h.elim
        · exact h.elim
      · exact h.elim
    · obtain ⟨fr, l, m, t, rfl, x, hx, h⟩ := h
      simp only [if_true, hx]
      exact h
theorem w_dkApp {s i : Nat} {m : MV} : W (mDkApp s i m ρ) S = W1 ρ[i]? fun e => ∃ fr l mx t, e = .own fr (.deck s l mx t) ∧ l.length < 100000 ∧ W (m (ρ.map valS)) fun d _ => W1 (intOf d) fun x => S (.val .none) (ρ.set i (.own fr (.deck s (l ++ [x]) mx t))) := by
  unfold mDkApp
  cases ρ[i]? with
  | none => rfl
  | some e =>
    refine propext ⟨fun h => ?_, fun h => ?_⟩
    · split at h
      · rename_i fr s1 l mx t hh
        cases hh
        split at h
        · rename_i hs
          obtain ⟨hs, hl⟩ := hs
          subst hs
          refine ⟨fr, l, mx, t, rfl, hl, ?_⟩
          cases hm : m (ρ.map valS) with
          | none => rw [hm] at h; exact h
          | some z =>
            obtain ⟨d, ρ2⟩ := z
            rw [hm] at h
            cases d <;> exact h
        · exact h.elim
      · exact h.elim
    · obtain ⟨fr, l, mx, t, rfl, hl, h⟩ := h
      simp only [hl, and_self, if_true]
      cases hm : m (ρ.map valS) with
      | none => rw [hm] at h; exact h
      | some z =>
        obtain ⟨d, ρ2⟩ := z
        rw [hm] at h
        cases d <;> exact h
theorem w_dkSetM {s i : Nat} {m : MV} : W1 (mDkSetM s i m ρ) Z = W (m ρ) fun d ρ => W1 (intOf d) fun x => W1 ρ[i]? fun e => ∃ fr l mx t, e = .own fr (.deck s l mx t) ∧ Z (.nx (ρ.set i (.own fr (.deck s l x t)))) := by
  unfold mDkSetM
  cases m ρ with
  | none => rfl
  | some z =>
    obtain ⟨d, ρ⟩ := z
    cases d with
    | int x =>
      simp only [W_some, W1_some]
      cases ρ[i]? with
      | none => rfl
      | some e =>
        refine propext ⟨fun h => ?_, fun h => ?_⟩
        · split at h
          · rename_i fr s1 l mx t hh
            cases hh
            split at h
            · rename_i hs
              subst hs
              exact ⟨fr, l, mx, t, rfl, h⟩
            · exact h.elim
          · exact h.elim
        · obtain ⟨fr, l, mx, t, rfl, h⟩ := h
          simp only [if_true]
          exact h
    | _ => rfl
theorem w_dkSetT {s i : Nat} {m : MV} : W1 (mDkSetT s i m ρ) Z = W (m ρ) fun d ρ => W1 (intOf d) fun x => W1 ρ[i]? fun e => ∃ fr l mx t, e = .own fr (.deck s l mx t) ∧ Z (.nx (ρ.set i (.own fr (.deck s l mx x)))) := by
  unfold mDkSetT
  cases m ρ with
  | none => rfl
  | some z =>
    obtain ⟨d, ρ⟩ := z
    cases d with
    | int x =>
      simp only [W_some, W1_some]
      cases ρ[i]? with
      | none => rfl
      | some e =>
        refine propext ⟨fun h => ?_, fun h => ?_⟩
        · split at h
          · rename_i fr s1 l mx t hh
            cases hh
            split at h
            · rename_i hs
              subst hs
              exact ⟨fr, l, mx, t, rfl, h⟩
            · exact h.elim
          · exact h.elim
        · obtain ⟨fr, l, mx, t, rfl, h⟩ := h
          simp only [if_true]
          exact h
    | _ => rfl
theorem w_dkNew {s : Nat} {a : MO} {b c : MV} : W (mDkNew s a b c ρ) S = W (a ρ) fun e ρ => ∃ ns : List Int, e = .own true (.lst (ns.map .int)) ∧ W (b ρ) fun d ρ => ∃ m, d = .int m ∧ W (c ρ) fun d ρ => ∃ t, d = .int t ∧ S (.own true (.deck s ns m t)) ρ := by
  unfold mDkNew
  cases a ρ with
  | none => rfl
  | some z =>
    obtain ⟨e, ρ⟩ := z
    simp only [W_some]
    refine propext ⟨fun h => ?_, fun h => ?_⟩
    · split at h
      · rename_i ds ρ1 hh
        cases hh
        split at h
        · rename_i l hl
          have := intsD_eq hl
          subst this
          refine ⟨l, rfl, ?_⟩
          cases hb : b ρ with
          | none => rw [hb] at h; exact h
          | some z =>
            obtain ⟨d, ρ2⟩ := z
            rw [hb] at h
            cases d with
            | int m =>
              refine ⟨m, rfl, ?_⟩
              simp only at h
              cases hc : c ρ2 with
              | none => rw [hc] at h; exact h
              | some z =>
                obtain ⟨d, ρ3⟩ := z
                rw [hc] at h
                cases d with
                | int t => exact ⟨t, rfl, h⟩
                | _ => exact h.elim
            | _ => exact h.elim
        · exact h.elim
      · exact h.elim
    · obtain ⟨ns, rfl, h⟩ := h
      simp only [intsD_map]
      cases hb : b ρ with
      | none => rw [hb] at h; exact h
      | some z =>
        obtain ⟨d, ρ2⟩ := z
        rw [hb] at h
        obtain ⟨m, rfl, h⟩ := h
        simp only
        cases hc : c ρ2 with
        | none => rw [hc] at h; exact h
        | some z =>
          obtain ⟨d, ρ3⟩ := z
          rw [hc] at h
          obtain ⟨t, rfl, h⟩ := h
          exact h
end
/-! ### loops -/
/-- a loop's invariant: I of what is still to be walked -/
theorem w_forL {g : MG} {m : MS} {Z : Fl → Prop} (I : List PyData → En → Prop) (body : ∀ d ds ρ, I (d :: ds) ρ → W1 (g d ρ) fun ρ => W1 (m ρ) fun f => match f with | .nx ρ => I ds ρ | .ct ρ => I ds ρ | .bk ρ => Z (.nx ρ) | .rt e ρ => Z (.rt e ρ)) (fin : ∀ ρ, I [] ρ → Z (.nx ρ)) :
    ∀ (ds : List PyData) (ρ : En), I ds ρ → W1 (forL g m ds ρ) Z
  | [], ρ, h => fin ρ h
  | d :: ds, ρ, h => by
    have b := body d ds ρ h
    unfold forL
    cases hg : g d ρ with
    | none =>
      rw [hg] at b
      exact b
    | some ρ1 =>
      rw [hg] at b
      simp only [W1_some] at b
      simp only
      cases hm : m ρ1 with
      | none =>
        rw [hm] at b
        exact b
      | some f =>
        rw [hm] at b
        cases f with
        | nx ρ2 => exact w_forL I body fin ds ρ2 b
        | ct ρ2 => exact w_forL I body fin ds ρ2 b
        | bk ρ2 => exact b
        | rt e ρ2 => exact b
theorem w_lcL {g : MG} {t : MT} {m : MV} {vs : List Nat} {Q : List PyData → En → Prop} (I : List PyData → List PyData → En → Prop)
    (body : ∀ d ds acc ρ, I (d :: ds) acc ρ → W1 (g d ρ) fun ρ => W (t ρ) fun b ρ => (b = true → W (m ρ) fun y ρ => acc.length < 100000 ∧ vs.all (freeE ρ) = true ∧ I ds (acc ++ [y]) (wipeE ρ vs)) ∧ (b = false → vs.all (freeE ρ) = true ∧ I ds acc (wipeE ρ vs))) (fin : ∀ acc ρ, I [] acc ρ → Q acc ρ) :
    ∀ (ds acc : List PyData) (ρ : En), I ds acc ρ → W (lcL g t m vs ds acc ρ) Q
  | [], acc, ρ, h => fin acc ρ h
  | d :: ds, acc, ρ, h => by
    have b := body d ds acc ρ h
    unfold lcL
    cases hg : g d ρ with
    | none =>
      rw [hg] at b
      exact b
    | some ρ1 =>
      rw [hg] at b
      simp only [W1_some] at b
      simp only
      cases ht : t ρ1 with
      | none =>
        rw [ht] at b
        exact b
      | some z =>
        obtain ⟨k, ρ2⟩ := z
        rw [ht] at b
        simp only [W_some] at b
        cases k with
        | false =>
          obtain ⟨h1, h2⟩ := b.2 rfl
          simp only [h1, if_true]
          exact w_lcL I body fin ds acc _ h2
        | true =>
          have b := b.1 rfl
          simp only
          cases hm : m ρ2 with
          | none =>
            rw [hm] at b
            exact b
          | some z =>
            obtain ⟨y, ρ3⟩ := z
            rw [hm] at b
            obtain ⟨h0, h1, h2⟩ := b
            simp only [h0, h1, and_self, if_true]
            exact w_lcL I body fin ds _ _ h2
end Fj

set_option Elab.async false
set_option linter.all false
set_option maxRecDepth 100000
set_option maxHeartbeats 4000000
set_option autoImplicit false
/-! What the operations say of numbers; decks. -/
namespace Fj
open PySem PySem.Spec PyProof.Rows L2

section
variable {Q : PyData → Prop} {S : Ent → Prop} {i j : Int}
theorem g_add : W1 (gAdd (.int i) (.int j)) Q = Q (.int (i + j)) := rfl
theorem g_sub : W1 (gSub (.int i) (.int j)) Q = Q (.int (i - j)) := rfl
theorem g_addT {xs ys : List PyData} : W1 (gAdd (.tuple xs) (.tuple ys)) Q = (xs.length + ys.length ≤ 100000 ∧ Q (.tuple (xs ++ ys))) := by
  unfold gAdd gI gAddS gAddT gAddL
  simp only [Option.none_or, Option.or_none]
  exact W1_if
theorem g_addL {xs ys : List PyData} : W1 (gAdd (.list xs) (.list ys)) Q = (xs.length + ys.length ≤ 100000 ∧ Q (.list (xs ++ ys))) := by
  unfold gAdd gI gAddS gAddT gAddL
  simp only [Option.none_or]
  exact W1_if
theorem g_addS {x y : Str} : W1 (gAdd (.str x) (.str y)) Q = (x.length + y.length ≤ 100000 ∧ Q (.str (x ++ y))) := by
  unfold gAdd gI gAddS gAddT gAddL
  simp only [Option.none_or, Option.or_none]
  exact W1_if
theorem g_mul : W1 (gMul (.int i) (.int j)) Q = (gMulC i j = true ∧ Q (.int (i * j))) := by
  unfold gMul gMulI gMulL gI
  simp only [Option.or_none]
  exact W1_if
theorem g_div : W1 (gDiv (.int i) (.int j)) Q = (gDivC i j = true ∧ Q (.int (i / j))) := by
  unfold gDiv gI
  exact W1_if
theorem g_mod : W1 (gMod (.int i) (.int j)) Q = (0 < j ∧ Q (.int (i % j))) := by
  unfold gMod gI
  refine W1_if.trans ?_
  unfold gModC
  rw [decide_eq_true_eq]
theorem g_pow : W1 (gPow (.int i) (.int j)) Q = (gPowC i j = true ∧ Q (.int (i ^ j.toNat))) := by
  unfold gPow gI
  exact W1_if
theorem g_lt : W1 (gLt (.int i) (.int j)) Q = Q (.bool (decide (i < j))) := rfl
theorem g_le : W1 (gLe (.int i) (.int j)) Q = Q (.bool (decide (i ≤ j))) := rfl
theorem g_gt : W1 (gGt (.int i) (.int j)) Q = Q (.bool (decide (j < i))) := rfl
theorem g_ge : W1 (gGe (.int i) (.int j)) Q = Q (.bool (decide (j ≤ i))) := rfl
theorem shaped_int : SeqAt.shaped (.int i) = true := by
  unfold SeqAt.shaped
  simp [PyData.canLay0, PyData.depth]
theorem shaped_nil : SeqAt.shaped (.list []) = true := by decide
theorem eqv_int : PyData.eqv (.int i) (.int j) = decide (i = j) := by
  unfold PyData.eqv
  by_cases h : i = j
  · rw [h, decide_eq_true rfl]
    exact beq_self_eq_true j
  · rw [decide_eq_false h]
    exact beq_false_of_ne h
theorem g_eq : W1 (gEq (.int i) (.int j)) Q = Q (.bool (decide (i = j))) := by
  unfold gEq gEqS gEqD
  simp only [Option.none_or]
  rw [shaped_int, shaped_int]
  simp only [Bool.and_self, if_true, W1_some, eqv_int]
theorem g_ne : W1 (gNe (.int i) (.int j)) Q = Q (.bool (!decide (i = j))) := by
  unfold gNe gNeS gNeD
  simp only [Option.none_or]
  rw [shaped_int, shaped_int]
  simp only [Bool.and_self, if_true, W1_some, eqv_int]
theorem eqv_nilL (ds : List PyData) : PyData.eqv (.list ds) (.list []) = ds.isEmpty := by
  cases ds <;> simp [PyData.eqv, PyData.eqvAll]
theorem g_neNil {ds : List PyData} : W1 (gNe (.list ds) (.list [])) Q = (SeqAt.shaped (.list ds) = true ∧ Q (.bool (!ds.isEmpty))) := by
  unfold gNe gNeS gNeD
  simp only [Option.none_or]
  rw [shaped_nil, Bool.and_true, eqv_nilL]
  exact W1_if
theorem g_eqNil {ds : List PyData} : W1 (gEq (.list ds) (.list [])) Q = (SeqAt.shaped (.list ds) = true ∧ Q (.bool ds.isEmpty)) := by
  unfold gEq gEqS gEqD
  simp only [Option.none_or]
  rw [shaped_nil, Bool.and_true, eqv_nilL]
  exact W1_if
theorem g_eqS {x y : Str} : W1 (gEq (.str x) (.str y)) Q = Q (.bool (decide (x = y))) := rfl
theorem g_neS {x y : Str} : W1 (gNe (.str x) (.str y)) Q = Q (.bool (!decide (x = y))) := rfl
theorem g_lenL {ds : List PyData} : W1 (gLen [.list ds]) S = S (.val (.int ds.length)) := rfl
theorem g_lenT {ds : List PyData} : W1 (gLen [.tuple ds]) S = S (.val (.int ds.length)) := rfl
theorem g_int : W1 (gInt [.int i]) S = S (.val (.int i)) := rfl
theorem g_max : W1 (gMax2 [.int i, .int j]) S = S (.val (.int (if j > i then j else i))) := rfl
theorem g_min : W1 (gMin2 [.int i, .int j]) S = S (.val (.int (if j < i then j else i))) := rfl
theorem g_list {ds : List PyData} : W1 (gList [.list ds]) S = S (.own true (.lst ds)) := rfl
theorem g_listT {ds : List PyData} : W1 (gList [.tuple ds]) S = S (.own true (.lst ds)) := rfl
theorem g_tupT {ds : List PyData} : W1 (gTuple [.tuple ds]) S = S (.val (.tuple ds)) := rfl
theorem g_tupL {ds : List PyData} : W1 (gTuple [.list ds]) S = S (.val (.tuple ds)) := rfl
theorem g_ixL {ds : List PyData} : W1 (gIx (.list ds) (.int i)) Q = W1 (L2.atI ds i) Q := rfl
theorem g_ixT {ds : List PyData} : W1 (gIx (.tuple ds) (.int i)) Q = W1 (L2.atI ds i) Q := rfl
/-! ### what is there -/
theorem ex_dk {s : Nat} {fr0 : Bool} {l0 : List Int} {m0 t0 : Int} {R : Bool → List Int → Int → Int → Prop} : (∃ fr l m t, Ent.own fr0 (.deck s l0 m0 t0) = .own fr (.deck s l m t) ∧ R fr l m t) = R fr0 l0 m0 t0 :=
  propext ⟨fun ⟨fr, l, m, t, e, h⟩ => by
    cases e
    exact h, fun h => ⟨_, _, _, _, rfl, h⟩⟩
theorem ex_own {fr0 : Bool} {c0 : Cell} {R : Bool → Cell → Prop} : (∃ fr ce, Ent.own fr0 c0 = .own fr ce ∧ R fr ce) = R fr0 c0 :=
  propext ⟨fun ⟨fr, ce, e, h⟩ => by
    cases e
    exact h, fun h => ⟨_, _, rfl, h⟩⟩
theorem ex_lst {fr0 : Bool} {d0 : List PyData} {R : Bool → List PyData → Prop} : (∃ fr ds, Ent.own fr0 (.lst d0) = .own fr (.lst ds) ∧ R fr ds) = R fr0 d0 :=
  propext ⟨fun ⟨fr, ds, e, h⟩ => by
    cases e
    exact h, fun h => ⟨_, _, rfl, h⟩⟩
theorem ex_out {c0 : Cell} {r0 : List Ent} {R : Cell → List Ent → Prop} : (∃ ce r, (Ent.own false c0 :: r0) = .own false ce :: r ∧ R ce r) = R c0 r0 :=
  propext ⟨fun ⟨ce, r, e, h⟩ => by
    cases e
    exact h, fun h => ⟨_, _, rfl, h⟩⟩
theorem ex_int {R : Int → Prop} : (∃ m, PyData.int i = .int m ∧ R m) = R i :=
  propext ⟨fun ⟨m, e, h⟩ => by
    cases e
    exact h, fun h => ⟨_, rfl, h⟩⟩
theorem ex_r1 {A : Prop} {R : Int → Prop} : (∃ j', [PyData.int j] = [.int j'] ∧ A ∧ R j') = (A ∧ R j) :=
  propext ⟨fun ⟨m, e, h⟩ => by
    cases e
    exact h, fun h => ⟨_, rfl, h⟩⟩
theorem ex_ls {xs ys : List PyData} {R : List PyData → List PyData → Prop} : (∃ xs' ys', PyData.list xs = .list xs' ∧ PyData.list ys = .list ys' ∧ R xs' ys') = R xs ys :=
  propext ⟨fun ⟨_, _, e1, e2, h⟩ => by
    cases e1
    cases e2
    exact h, fun h => ⟨_, _, rfl, rfl, h⟩⟩
theorem ex_en {xs : List PyData} {R : List PyData → Prop} : (∃ xs', [PyData.list xs] = [.list xs'] ∧ R xs') = R xs :=
  propext ⟨fun ⟨_, e1, h⟩ => by
    cases e1
    exact h, fun h => ⟨_, rfl, h⟩⟩
end
theorem pin_no : pinE .no = false := rfl
theorem pin_val {d : PyData} : pinE (.val d) = false := rfl
theorem pin_t {ce : Cell} : pinE (.own true ce) = false := rfl
theorem pin_f {ce : Cell} : pinE (.own false ce) = true := rfl
theorem pin_lent : pinE .lent = true := rfl
theorem pin_scr {ns : List Int} : pinE (.scr ns) = false := rfl
/-! ### the rules, each step seen by what it looks at -/
section
variable {ρ : En} {Q : PyData → En → Prop} {R : Bool → En → Prop} {S : Ent → En → Prop} {Z : Fl → Prop} {A : List PyData → En → Prop}
theorem own_of {fr : Bool} {ce : Cell} : ownOf (.own fr ce) = some (fr, ce) := rfl
theorem lst_of {fr : Bool} {ds : List PyData} : lstOf (.own fr (.lst ds)) = some (fr, ds) := rfl
theorem dk_of {s : Nat} {fr : Bool} {l : List Int} {m t : Int} : dkOf s (.own fr (.deck s l m t)) = some (fr, l, m, t) := if_pos rfl
theorem out_of {ce : Cell} {r : List Ent} : outOf (.own false ce :: r) = some ce := rfl
theorem list_of {ds : List PyData} : listOf (.list ds) = some ds := rfl
theorem bool_of {b : Bool} : boolOf (.bool b) = some b := rfl
theorem val_of {d : PyData} : valOf (.val d) = some d := rfl
theorem scr_of {ns : List Int} : scrOf (.scr ns) = some ns := rfl
theorem row_ofL {ds : List PyData} : rowOf (.list ds) = some ds := rfl
theorem row_ofT {ds : List PyData} : rowOf (.tuple ds) = some ds := rfl
theorem walk_ofL {ds : List PyData} : walkOf (.list ds) = some ds := rfl
theorem walk_ofT {ds : List PyData} : walkOf (.tuple ds) = some ds := rfl
theorem walk_ofS {x : Str} : walkOf (.str x) = some (signsD x) := rfl
theorem int_of {i : Int} : intOf (.int i) = some i := rfl
theorem exW_own {e : Ent} {R : Bool → Cell → Prop} : (∃ fr ce, e = .own fr ce ∧ R fr ce) = W1 (ownOf e) fun q => R q.1 q.2 := by
  refine propext ⟨fun ⟨fr, ce, h, r⟩ => by
    cases h
    exact r, fun h => ?_⟩
  cases e with
  | own fr ce => exact ⟨_, _, rfl, h⟩
  | _ => exact h.elim
theorem exW_lst {e : Ent} {R : Bool → List PyData → Prop} : (∃ fr ds, e = .own fr (.lst ds) ∧ R fr ds) = W1 (lstOf e) fun q => R q.1 q.2 := by
  refine propext ⟨fun ⟨fr, ce, h, r⟩ => by
    cases h
    exact r, fun h => ?_⟩
  cases e with
  | own fr ce =>
    cases ce with
    | lst ds => exact ⟨_, _, rfl, h⟩
    | _ => exact h.elim
  | _ => exact h.elim
theorem exW_dk {s : Nat} {e : Ent} {R : Bool → List Int → Int → Int → Prop} : (∃ fr l m t, e = .own fr (.deck s l m t) ∧ R fr l m t) = W1 (dkOf s e) fun q => R q.1 q.2.1 q.2.2.1 q.2.2.2 := by
  refine propext ⟨fun ⟨fr, l, m, t, h, r⟩ => by
    cases h
    rw [dk_of]
    exact r, fun h => ?_⟩
  cases e with
  | own fr ce =>
    cases ce with
    | deck s' l m t =>
      by_cases hs : s' = s
      · subst hs
        rw [dk_of] at h
        exact ⟨_, _, _, _, rfl, h⟩
      · have e : dkOf s (.own fr (.deck s' l m t)) = none := if_neg hs
        rw [e] at h
        exact h.elim
    | _ => exact h.elim
  | _ => exact h.elim
theorem exW_out {o : List Ent} {R : Cell → Prop} : (∃ ce r, o = .own false ce :: r ∧ R ce) = W1 (outOf o) R := by
  refine propext ⟨fun ⟨ce, r, h, q⟩ => by
    cases h
    exact q, fun h => ?_⟩
  cases o with
  | nil => exact h.elim
  | cons e r =>
    cases e with
    | own fr ce =>
      cases fr with
      | false => exact ⟨_, _, rfl, h⟩
      | true => exact h.elim
    | _ => exact h.elim
theorem exW_list {d : PyData} {R : List PyData → Prop} : (∃ ds, d = .list ds ∧ R ds) = W1 (listOf d) R := by
  refine propext ⟨fun ⟨ds, h, r⟩ => by
    cases h
    exact r, fun h => ?_⟩
  cases d with
  | list ds => exact ⟨_, rfl, h⟩
  | _ => exact h.elim
theorem exW_int {d : PyData} {R : Int → Prop} : (∃ i, d = .int i ∧ R i) = W1 (intOf d) R := by
  refine propext ⟨fun ⟨ds, h, r⟩ => by
    cases h
    exact r, fun h => ?_⟩
  cases d with
  | int i => exact ⟨_, rfl, h⟩
  | _ => exact h.elim
theorem x_lend {i : Nat} {f : MF} {p : List Nat} {dd : List PyData} {n nk : MA} : W (mLend i f p dd n nk ρ) S = W1 ρ[i]? fun e => W1 (ownOf e) fun _ => W (n ρ) fun ds ρ => W (nk ρ) fun es ρ => W1 ρ[i]? fun e => W1 (ownOf e) fun q =>
    W (f (.own false q.2 :: (pick p (ds ++ es ++ dd)).map .val)) fun e o => W1 (outOf o) fun ce => resE e = true ∧ S e (ρ.set i (.own q.1 ce)) := by
  rw [w_lend]
  refine W1_fn fun e => ?_
  refine Eq.trans ?_ (exW_own (R := fun _ _ => _))
  have inner : (W (n ρ) fun ds ρ => W (nk ρ) fun es ρ => W1 ρ[i]? fun e => ∃ fr ce, e = .own fr ce ∧ W (f (.own false ce :: (pick p (ds ++ es ++ dd)).map .val)) fun e o => ∃ ce' r, o = .own false ce' :: r ∧ resE e = true ∧ S e (ρ.set i (.own fr ce'))) =
      W (n ρ) fun ds ρ => W (nk ρ) fun es ρ => W1 ρ[i]? fun e => W1 (ownOf e) fun q => W (f (.own false q.2 :: (pick p (ds ++ es ++ dd)).map .val)) fun e o => W1 (outOf o) fun ce => resE e = true ∧ S e (ρ.set i (.own q.1 ce)) :=
    W_fn fun ds ρ => W_fn fun es ρ => W1_fn fun e => exW_own.trans (W1_fn fun q => W_fn fun e o => exW_out)
  rw [inner]
  refine propext ⟨fun ⟨h1, h2⟩ => ?_, fun ⟨fr, ce, h1, h2⟩ => ?_⟩
  · cases e with
    | own fr ce => exact ⟨fr, ce, rfl, h2⟩
    | _ => exact h1.elim
  · subst h1
    exact ⟨trivial, h2⟩
theorem x_app {j : Nat} {m : MV} : W (mApp j m ρ) S = W1 ρ[j]? fun e => W1 (lstOf e) fun _ => W (m ρ) fun d ρ => W1 ρ[j]? fun e => W1 (lstOf e) fun q => q.2.length < 100000 ∧ S (.val .none) (ρ.set j (.own q.1 (.lst (q.2 ++ [d])))) := by
  rw [w_app]
  refine W1_fn fun e => ?_
  refine Eq.trans ?_ (exW_lst (R := fun _ _ => _))
  have inner : (W (m ρ) fun d ρ => W1 ρ[j]? fun e => ∃ fr ds, e = .own fr (.lst ds) ∧ ds.length < 100000 ∧ S (.val .none) (ρ.set j (.own fr (.lst (ds ++ [d]))))) = W (m ρ) fun d ρ => W1 ρ[j]? fun e => W1 (lstOf e) fun q => q.2.length < 100000 ∧ S (.val .none) (ρ.set j (.own q.1 (.lst (q.2 ++ [d])))) :=
    W_fn fun d ρ => W1_fn fun e => exW_lst
  rw [inner]
  refine propext ⟨fun ⟨h1, h2⟩ => ?_, fun ⟨fr, ce, h1, h2⟩ => ?_⟩
  · cases e with
    | own fr ce =>
      cases ce with
      | lst ds => exact ⟨fr, ds, rfl, h2⟩
      | _ => exact h1.elim
    | _ => exact h1.elim
  · subst h1
    exact ⟨trivial, h2⟩
theorem x_ext {j : Nat} {m : MV} : W (mExt j m ρ) S = W1 ρ[j]? fun e => W1 (lstOf e) fun _ => W (m ρ) fun d ρ => W1 (listOf d) fun es => W1 ρ[j]? fun e => W1 (lstOf e) fun q => q.2.length + es.length ≤ 100000 ∧ S (.val .none) (ρ.set j (.own q.1 (.lst (q.2 ++ es)))) := by
  rw [w_ext]
  refine W1_fn fun e => ?_
  refine Eq.trans ?_ (exW_lst (R := fun _ _ => _))
  have inner : (W (m ρ) fun d ρ => W1 (listOf d) fun es => W1 ρ[j]? fun e => ∃ fr ds, e = .own fr (.lst ds) ∧ ds.length + es.length ≤ 100000 ∧ S (.val .none) (ρ.set j (.own fr (.lst (ds ++ es))))) = W (m ρ) fun d ρ => W1 (listOf d) fun es => W1 ρ[j]? fun e => W1 (lstOf e) fun q => q.2.length + es.length ≤ 100000 ∧ S (.val .none) (ρ.set j (.own q.1 (.lst (q.2 ++ es)))) :=
    W_fn fun d ρ => W1_fn fun es => W1_fn fun e => exW_lst
  rw [inner]
  refine propext ⟨fun ⟨h1, h2⟩ => ?_, fun ⟨fr, ce, h1, h2⟩ => ?_⟩
  · cases e with
    | own fr ce =>
      cases ce with
      | lst ds => exact ⟨fr, ds, rfl, h2⟩
      | _ => exact h1.elim
    | _ => exact h1.elim
  · subst h1
    exact ⟨trivial, h2⟩
theorem x_dkM {s i : Nat} : W (mDkM s i ρ) Q = W1 ρ[i]? fun e => W1 (dkOf s e) fun q => Q (.int q.2.2.1) ρ := by
  rw [w_dkM]
  refine W1_fn fun e => ?_
  exact exW_dk (R := fun _ _ m _ => Q (.int m) ρ)
theorem x_dkT {s i : Nat} : W (mDkT s i ρ) Q = W1 ρ[i]? fun e => W1 (dkOf s e) fun q => Q (.int q.2.2.2) ρ := by
  rw [w_dkT]
  refine W1_fn fun e => ?_
  exact exW_dk (R := fun _ _ _ t => Q (.int t) ρ)
theorem x_dkL {s i : Nat} : W (mDkL s i ρ) R = W1 ρ[i]? fun e => W1 (dkOf s e) fun q => R (!q.2.1.isEmpty) ρ := by
  rw [w_dkL]
  refine W1_fn fun e => ?_
  exact exW_dk (R := fun _ l _ _ => R (!l.isEmpty) ρ)
theorem x_dkPop {s i : Nat} : W (mDkPop s i ρ) Q = W1 ρ[i]? fun e => W1 (dkOf s e) fun q => W1 q.2.1.getLast? fun x => Q (.int x) (ρ.set i (.own q.1 (.deck s q.2.1.dropLast q.2.2.1 q.2.2.2))) := by
  rw [w_dkPop]
  refine W1_fn fun e => ?_
  refine (exW_dk (R := fun fr l m t => ∃ x, l.getLast? = some x ∧ Q (.int x) (ρ.set i (.own fr (.deck s l.dropLast m t))))).trans ?_
  refine W1_fn fun q => ?_
  cases q.2.1.getLast? with
  | none => exact propext ⟨fun ⟨x, h, _⟩ => (by cases h), fun h => h.elim⟩
  | some y => exact propext ⟨fun ⟨x, h, r⟩ => (by
      cases h
      exact r), fun h => ⟨_, rfl, h⟩⟩
theorem x_dkApp {s i : Nat} {m : MV} : W (mDkApp s i m ρ) S = W1 ρ[i]? fun e => W1 (dkOf s e) fun q => q.2.1.length < 100000 ∧ W (m (ρ.map valS)) fun d _ => W1 (intOf d) fun x => S (.val .none) (ρ.set i (.own q.1 (.deck s (q.2.1 ++ [x]) q.2.2.1 q.2.2.2))) := by
  rw [w_dkApp]
  refine W1_fn fun e => ?_
  exact exW_dk (R := fun fr l mx t => l.length < 100000 ∧ W (m (ρ.map valS)) fun d _ => W1 (intOf d) fun x => S (.val .none) (ρ.set i (.own fr (.deck s (l ++ [x]) mx t))))
theorem x_dkSetM {s i : Nat} {m : MV} : W1 (mDkSetM s i m ρ) Z = W (m ρ) fun d ρ => W1 (intOf d) fun x => W1 ρ[i]? fun e => W1 (dkOf s e) fun q => Z (.nx (ρ.set i (.own q.1 (.deck s q.2.1 x q.2.2.2)))) := by
  rw [w_dkSetM]
  show W (m ρ) (fun d ρ => W1 (intOf d) fun x => _) = _
  refine W_fn fun d ρ => ?_
  refine W1_fn fun x => ?_
  refine W1_fn fun e => ?_
  exact exW_dk (R := fun fr l _ t => Z (.nx (ρ.set i (.own fr (.deck s l x t)))))
theorem x_dkSetT {s i : Nat} {m : MV} : W1 (mDkSetT s i m ρ) Z = W (m ρ) fun d ρ => W1 (intOf d) fun x => W1 ρ[i]? fun e => W1 (dkOf s e) fun q => Z (.nx (ρ.set i (.own q.1 (.deck s q.2.1 q.2.2.1 x)))) := by
  rw [w_dkSetT]
  show W (m ρ) (fun d ρ => W1 (intOf d) fun x => _) = _
  refine W_fn fun d ρ => ?_
  refine W1_fn fun x => ?_
  refine W1_fn fun e => ?_
  exact exW_dk (R := fun fr l mx _ => Z (.nx (ρ.set i (.own fr (.deck s l mx x)))))
theorem x_cat {a b : MV} : W (mCat a b ρ) S = W (a ρ) fun x ρ => W (b ρ) fun y ρ => W1 (listOf x) fun xs => W1 (listOf y) fun ys => xs.length + ys.length ≤ 100000 ∧ S (.own true (.lst (xs ++ ys))) ρ := by
  rw [w_cat]
  refine W_fn fun x ρ => ?_
  refine W_fn fun y ρ => ?_
  refine propext ⟨fun ⟨xs, ys, h1, h2, h3⟩ => by
    subst h1 h2
    exact h3, fun h => ?_⟩
  cases x with
  | list xs =>
    cases y with
    | list ys => exact ⟨_, _, rfl, rfl, h⟩
    | _ => exact h.elim
  | _ => exact h.elim
def int1 : List PyData → Option Int
  | [.int i] => some i
  | _ => none
def int2 : List PyData → Option (Int × Int)
  | [.int i, .int j] => some (i, j)
  | _ => none
def list1 : List PyData → Option (List PyData)
  | [.list ds] => some ds
  | _ => none
theorem int1_of {i : Int} : int1 [.int i] = some i := rfl
theorem int2_of {i j : Int} : int2 [.int i, .int j] = some (i, j) := rfl
theorem list1_of {ds : List PyData} : list1 [.list ds] = some ds := rfl
theorem x_r1 {n : MA} : W (mR1 n ρ) A = W (n ρ) fun ds ρ => W1 (int1 ds) fun j => (-(2 ^ 62) ≤ j ∧ j < 2 ^ 62) ∧ A (rngD 0 j.toNat) ρ := by
  rw [w_r1]
  refine W_fn fun ds ρ => ?_
  refine propext ⟨fun ⟨j, h, r⟩ => by
    subst h
    exact r, fun h => ?_⟩
  unfold int1 at h
  split at h
  · exact ⟨_, rfl, h⟩
  · exact h.elim
theorem x_r2 {n : MA} : W (mR2 n ρ) A = W (n ρ) fun ds ρ => W1 (int2 ds) fun q => (-(2 ^ 62) ≤ q.1 ∧ q.1 < 2 ^ 62 ∧ -(2 ^ 62) ≤ q.2 ∧ q.2 < 2 ^ 62) ∧ A (rngD q.1 (q.2 - q.1).toNat) ρ := by
  rw [w_r2]
  refine W_fn fun ds ρ => ?_
  refine propext ⟨fun ⟨i, j, h, r⟩ => by
    subst h
    exact r, fun h => ?_⟩
  unfold int2 at h
  split at h
  · exact ⟨_, _, rfl, h⟩
  · exact h.elim
theorem x_enum {n : MA} : W (mEnum n ρ) A = W (n ρ) fun ds ρ => W1 (list1 ds) fun xs => A (enumD 0 xs) ρ := by
  rw [w_enum]
  refine W_fn fun ds ρ => ?_
  refine propext ⟨fun ⟨j, h, r⟩ => by
    subst h
    exact r, fun h => ?_⟩
  unfold list1 at h
  split at h
  · exact ⟨_, rfl, h⟩
  · exact h.elim
theorem x_dkNew {s : Nat} {a : MO} {b c : MV} : W (mDkNew s a b c ρ) S = W (a ρ) fun e ρ => W1 (lstOf e) fun q => q.1 = true ∧ W1 (intsD q.2) fun ns => W (b ρ) fun d ρ => W1 (intOf d) fun m => W (c ρ) fun d ρ => W1 (intOf d) fun t => S (.own true (.deck s ns m t)) ρ := by
  rw [w_dkNew]
  refine W_fn fun e ρ => ?_
  have inner : ∀ ns : List Int, (W (b ρ) fun d ρ => ∃ m, d = .int m ∧ W (c ρ) fun d ρ => ∃ t, d = .int t ∧ S (.own true (.deck s ns m t)) ρ) = W (b ρ) fun d ρ => W1 (intOf d) fun m => W (c ρ) fun d ρ => W1 (intOf d) fun t => S (.own true (.deck s ns m t)) ρ := fun ns => by
    refine W_fn fun d ρ => exW_int.trans (W1_fn fun m => W_fn fun d ρ => exW_int)
  refine propext ⟨fun ⟨ns, h, r⟩ => ?_, fun h => ?_⟩
  · subst h
    refine ⟨rfl, ?_⟩
    rw [inner] at r
    show W1 (intsD (ns.map PyData.int)) _
    rw [intsD_map]
    exact r
  · cases e with
    | own fr ce =>
      cases ce with
      | lst ds =>
        obtain ⟨h1, h2⟩ := h
        obtain ⟨ns, e, _⟩ := h2.at_
        have := intsD_eq e
        subst this
        have h1 : fr = true := h1
        subst h1
        refine ⟨ns, rfl, ?_⟩
        rw [inner]
        have h2 : W1 (intsD (ns.map PyData.int)) (fun ns => W (b ρ) fun d ρ => W1 (intOf d) fun m => W (c ρ) fun d ρ => W1 (intOf d) fun t => S (.own true (.deck s ns m t)) ρ) := h2
        rw [intsD_map] at h2
        exact h2
      | _ => exact h.elim
    | _ => exact h.elim
end
/-! ### numbers -/
theorem log2_small {i : Int} {k : Nat} (h : i.natAbs < 2 ^ k) (hk : 0 < k) : i.natAbs.log2 < k := by
  by_cases z : i.natAbs = 0
  · rw [z, Nat.log2_zero]
    exact hk
  · exact (Nat.log2_lt z).mpr h
theorem mulC {i j : Int} (h : i.natAbs < 2 ^ 128) (h' : j.natAbs < 2 ^ 128) : gMulC i j = true := by
  unfold gMulC
  refine decide_eq_true ?_
  have a := log2_small h (by decide)
  have b := log2_small h' (by decide)
  omega
theorem divC {i j : Int} (h : 0 < j) (h' : j.natAbs < 2 ^ 128) : gDivC i j = true := by
  unfold gDivC
  have b := log2_small h' (by decide)
  simp only [Bool.and_eq_true, decide_eq_true_eq]
  exact ⟨h, by omega⟩
/-- a deck in order: as many draws at most -/
def DkOk (n : Nat) (l : List Int) (m t : Int) : Prop := 0 ≤ m ∧ m < 4611686018427387904 ∧ 0 ≤ t ∧ t ≤ n ∧ l.length ≤ 63
theorem mulCi {i j : Int} (h0 : 0 ≤ i) (h1 : i < 2 ^ 120) (h2 : 0 ≤ j) (h3 : j < 2 ^ 120) : gMulC i j = true := mulC (by omega) (by omega)
theorem divCi {i j : Int} (h : 0 < j) (h' : j < 2 ^ 120) : gDivC i j = true := divC h (by omega)
theorem atI_mem {ds : List PyData} {r : Int} (h0 : 0 ≤ r) (h1 : r < ds.length) : ∃ d, L2.atI ds r = some d ∧ d ∈ ds ∧ ds[r.toNat]? = some d := by
  have hr : r.toNat < ds.length := by omega
  refine ⟨ds[r.toNat], ?_, List.getElem_mem hr, List.getElem?_eq_getElem hr⟩
  unfold L2.atI L2.ixN
  rw [if_pos h0, if_pos h1]
  exact List.getElem?_eq_getElem hr
theorem dk_end {s n : Nat} {l : List Int} {m t : Int} {below x : Int} (hb : 0 < below) (h : DkOk (n + 1) l m t) : ∃ (r : Int) (l' : List Int) (m' t' : Int) (o : List Ent), Ent.val (PyData.int (x % below)) = Ent.val (PyData.int r) ∧ 0 ≤ r ∧ r < below ∧ [Ent.own false (Cell.deck s l m t), Ent.no] = Ent.own false (Cell.deck s l' m' t') :: o ∧ DkOk (n + 1) l' m' t' :=
  ⟨_, _, _, _, _, rfl, Int.emod_nonneg _ (by omega), Int.emod_lt_of_pos _ hb, rfl, h⟩
/-- what a draw does -/
def DrawS (s : Nat) (f : MF) : Prop := ∀ (n : Nat) (l : List Int) (m t below : Int), DkOk n l m t → n < 2 ^ 64 → 0 < below → below < 2 ^ 100 → W (f [.own false (.deck s l m t), .val (.int below)]) fun e outs => ∃ r l' m' t' o, e = .val (.int r) ∧ 0 ≤ r ∧ r < below ∧ outs = .own false (.deck s l' m' t') :: o ∧ DkOk (n + 1) l' m' t'
/-- what a pick does -/
def PickS (s : Nat) (f : MF) : Prop := ∀ (n : Nat) (l : List Int) (m t : Int) (ds : List PyData), DkOk n l m t → n < 2 ^ 64 → ds ≠ [] → ds.length ≤ 100000 → W (f [.own false (.deck s l m t), .val (.list ds)]) fun e outs => ∃ d l' m' t' o, d ∈ ds ∧ e = .val d ∧ outs = .own false (.deck s l' m' t') :: o ∧ DkOk (n + 1) l' m' t'
theorem cut63 {xs : List PyData} (h : xs.length ≤ 63) : cutD xs none (some 63) = xs := by
  unfold cutD HT.sIx
  simp only [List.drop_zero]
  refine List.take_of_length_le ?_
  simp
  omega
/-- the deck of a script -/
def DeckS (s : Nat) (f : MF) : Prop := ∀ ns : List Int, ns.length ≤ 63 → W (f [.scr ns]) fun e _ => ∃ l m t, e = .own true (.deck s l m t) ∧ DkOk 0 l m t
/-- texts of rows of numbers -/
theorem shown_ints {ns : List Int} (h : ∀ i ∈ ns, i.natAbs < 10 ^ 12) (hl : ns.length ≤ 1000) : (PyData.tuple (ns.map .int)).showable = true ∧ SeqAt.shaped (.tuple (ns.map .int)) = true ∧ (PyData.tuple (ns.map .int)).shown.length ≤ 100000 := by
  have h1 : ∀ ns : List Int, (∀ i ∈ ns, i.natAbs < 10 ^ 12) → PyData.showableAll (ns.map .int) = true ∧ PyData.leavesShortAll 13 (ns.map .int) = true ∧ PyData.bulkAll (ns.map .int) = ns.length := by
    intro ns
    induction ns with
    | nil => exact fun _ => ⟨rfl, rfl, rfl⟩
    | cons i ns ih =>
      intro h
      obtain ⟨a, b, c⟩ := ih fun j hj => h j (List.mem_cons_of_mem _ hj)
      have hi := h i (List.mem_cons_self ..)
      have hl : i.natAbs.log2 < 1920 := log2_small (Nat.lt_of_lt_of_le hi (Nat.le_trans (by decide : (10:Nat) ^ 12 ≤ 2 ^ 128) (Nat.pow_le_pow_right (by decide) (by decide)))) (by decide)
      refine ⟨?_, ?_, ?_⟩
      · rw [List.map_cons]
        unfold PyData.showableAll
        rw [a, Bool.and_true]
        unfold PyData.showable
        exact decide_eq_true hl
      · rw [List.map_cons]
        unfold PyData.leavesShortAll
        rw [b, Bool.and_true]
        unfold PyData.leavesShort
        exact decide_eq_true (PyData.shown_int_le hi)
      · rw [List.map_cons]
        unfold PyData.bulkAll
        rw [c, List.length_cons]
        simp only [PyData.bulk]
        omega
  obtain ⟨a, b, c⟩ := h1 ns h
  refine ⟨by unfold PyData.showable; exact a, ?_, ?_⟩
  · unfold SeqAt.shaped
    rw [show PyData.canLay0 (.tuple (ns.map .int)) = true from by unfold PyData.canLay0; exact canLay_ints ns]
    rw [show PyData.depth (.tuple (ns.map .int)) = 1 from by unfold PyData.depth; rw [depth_ints]]
    rfl
  · have := PyData.shown_le_bulk 13 (by decide) (.tuple (ns.map .int)) (by unfold PyData.leavesShort; exact b)
    have e : PyData.bulk (.tuple (ns.map .int)) = ns.length := by unfold PyData.bulk; exact c
    rw [e] at this
    omega
theorem g_repr {S : Ent → Prop} {d : PyData} (h : d.showable = true ∧ SeqAt.shaped d = true ∧ d.shown.length ≤ 100000) : W1 (gRepr [d]) S = S (.val (.str d.shown)) := by
  unfold gRepr
  simp only [h.1, h.2.1, h.2.2, decide_true, Bool.and_self, if_true]
  rfl
end Fj

set_option Elab.async false
set_option linter.all false
set_option maxRecDepth 100000
set_option maxHeartbeats 4000000
set_option autoImplicit false
/-! More of what mirrors say. -/
namespace Fj
open PySem PySem.Spec PyProof.Rows L2

theorem kt_NoneType_int : kitB "NoneType" "int" = some false := by decide +kernel
theorem kt_NoneType_bool : kitB "NoneType" "bool" = some false := by decide +kernel
theorem kt_NoneType_str : kitB "NoneType" "str" = some false := by decide +kernel
theorem kt_NoneType_list : kitB "NoneType" "list" = some false := by decide +kernel
theorem kt_NoneType_tuple : kitB "NoneType" "tuple" = some false := by decide +kernel
theorem kt_NoneType_dict : kitB "NoneType" "dict" = some false := by decide +kernel
theorem kt_bool_int : kitB "bool" "int" = some true := by decide +kernel
theorem kt_bool_bool : kitB "bool" "bool" = some true := by decide +kernel
theorem kt_bool_str : kitB "bool" "str" = some false := by decide +kernel
theorem kt_bool_list : kitB "bool" "list" = some false := by decide +kernel
theorem kt_bool_tuple : kitB "bool" "tuple" = some false := by decide +kernel
theorem kt_bool_dict : kitB "bool" "dict" = some false := by decide +kernel
theorem kt_int_int : kitB "int" "int" = some true := by decide +kernel
theorem kt_int_bool : kitB "int" "bool" = some false := by decide +kernel
theorem kt_int_str : kitB "int" "str" = some false := by decide +kernel
theorem kt_int_list : kitB "int" "list" = some false := by decide +kernel
theorem kt_int_tuple : kitB "int" "tuple" = some false := by decide +kernel
theorem kt_int_dict : kitB "int" "dict" = some false := by decide +kernel
theorem kt_str_int : kitB "str" "int" = some false := by decide +kernel
theorem kt_str_bool : kitB "str" "bool" = some false := by decide +kernel
theorem kt_str_str : kitB "str" "str" = some true := by decide +kernel
theorem kt_str_list : kitB "str" "list" = some false := by decide +kernel
theorem kt_str_tuple : kitB "str" "tuple" = some false := by decide +kernel
theorem kt_str_dict : kitB "str" "dict" = some false := by decide +kernel
theorem kt_list_int : kitB "list" "int" = some false := by decide +kernel
theorem kt_list_bool : kitB "list" "bool" = some false := by decide +kernel
theorem kt_list_str : kitB "list" "str" = some false := by decide +kernel
theorem kt_list_list : kitB "list" "list" = some true := by decide +kernel
theorem kt_list_tuple : kitB "list" "tuple" = some false := by decide +kernel
theorem kt_list_dict : kitB "list" "dict" = some false := by decide +kernel
theorem kt_tuple_int : kitB "tuple" "int" = some false := by decide +kernel
theorem kt_tuple_bool : kitB "tuple" "bool" = some false := by decide +kernel
theorem kt_tuple_str : kitB "tuple" "str" = some false := by decide +kernel
theorem kt_tuple_list : kitB "tuple" "list" = some false := by decide +kernel
theorem kt_tuple_tuple : kitB "tuple" "tuple" = some true := by decide +kernel
theorem kt_tuple_dict : kitB "tuple" "dict" = some false := by decide +kernel
theorem kt_dict_int : kitB "dict" "int" = some false := by decide +kernel
theorem kt_dict_bool : kitB "dict" "bool" = some false := by decide +kernel
theorem kt_dict_str : kitB "dict" "str" = some false := by decide +kernel
theorem kt_dict_list : kitB "dict" "list" = some false := by decide +kernel
theorem kt_dict_tuple : kitB "dict" "tuple" = some false := by decide +kernel
theorem kt_dict_dict : kitB "dict" "dict" = some true := by decide +kernel
section
variable {ρ : En} {Q : PyData → Prop} {S : Ent → Prop} {i j : Int}
theorem w_lcNil {g : MG} {t : MT} {m : MV} {vs : List Nat} {acc : List PyData} {A : List PyData → En → Prop} : W (lcL g t m vs [] acc ρ) A = A acc ρ := rfl
theorem w_lcCons {g : MG} {t : MT} {m : MV} {vs : List Nat} {d : PyData} {ds acc : List PyData} {A : List PyData → En → Prop} : W (lcL g t m vs (d :: ds) acc ρ) A = W1 (g d ρ) fun ρ => W (t ρ) fun b ρ =>
    IfB b (W (m ρ) fun y ρ => (acc.length < 100000 ∧ vs.all (freeE ρ) = true) ∧ W (lcL g t m vs ds (acc ++ [y]) (wipeE ρ vs)) A) (vs.all (freeE ρ) = true ∧ W (lcL g t m vs ds acc (wipeE ρ vs)) A) := by
  show W (match g d ρ with
      | none => none
      | some ρ => match t ρ with
        | none => none
        | some (false, ρ) => if vs.all (freeE ρ) = true then lcL g t m vs ds acc (wipeE ρ vs) else none
        | some (true, ρ) => match m ρ with
          | none => none
          | some (y, ρ) => if acc.length < 100000 ∧ vs.all (freeE ρ) = true then lcL g t m vs ds (acc ++ [y]) (wipeE ρ vs) else none) A = _
  cases g d ρ with
  | none => rfl
  | some ρ1 =>
    simp only [W1_some]
    cases t ρ1 with
    | none => rfl
    | some z =>
      obtain ⟨b, ρ2⟩ := z
      simp only [W_some]
      cases b with
      | false =>
        refine Eq.trans ?_ (eq_f _ _)
        simp only [W_ite, W_none]
        by_cases h : vs.all (freeE ρ2) = true
        · simp [h]
        · simp [h]
      | true =>
        refine Eq.trans ?_ (eq_t _ _)
        simp only
        cases m ρ2 with
        | none => rfl
        | some z =>
          obtain ⟨y, ρ3⟩ := z
          simp only [W_some, W_ite, W_none]
          by_cases h : acc.length < 100000 ∧ vs.all (freeE ρ3) = true
          · simp [h]
          · simp only [h, false_and, not_false_eq_true, false_implies, true_implies, and_false]
theorem g_all {ds : List PyData} : W1 (gAll [.list ds]) S = W1 (boolsD ds) fun bs => S (.val (.bool (bs.all id))) := by
  unfold gAll
  simp only
  cases boolsD ds <;> rfl
theorem g_any {ds : List PyData} : W1 (gAny [.list ds]) S = W1 (boolsD ds) fun bs => S (.val (.bool (bs.any id))) := by
  unfold gAny
  simp only
  cases boolsD ds <;> rfl
theorem g_sum {ds : List PyData} : W1 (gSum [.list ds]) S = W1 (intsD ds) fun bs => S (.val (.int bs.sum)) := by
  unfold gSum
  simp only
  cases intsD ds <;> rfl
theorem g_bools0 {R : List Bool → Prop} : W1 (boolsD []) R = R [] := rfl
theorem g_bools1 {b : Bool} {ds : List PyData} {R : List Bool → Prop} : W1 (boolsD (.bool b :: ds)) R = W1 (boolsD ds) fun bs => R (b :: bs) := by
  show W1 ((boolsD ds).map fun l => b :: l) R = _
  cases boolsD ds <;> rfl
theorem g_ltT {xs ys : List PyData} : W1 (gLt (.tuple xs) (.tuple ys)) Q = W1 (intsD xs) fun ns => W1 (intsD ys) fun ms => Q (.bool (HT.lexLt ns ms)) := by
  unfold gLt gB gLtS gLtT
  simp only [Option.none_or]
  cases intsD xs with
  | none => rfl
  | some ns =>
    simp only [W1_some]
    cases intsD ys <;> rfl
theorem g_ints0 {R : List Int → Prop} : W1 (intsD []) R = R [] := rfl
theorem g_ints1 {i : Int} {ds : List PyData} {R : List Int → Prop} : W1 (intsD (.int i :: ds)) R = W1 (intsD ds) fun bs => R (i :: bs) := by
  show W1 ((intsD ds).map fun l => i :: l) R = _
  cases intsD ds <;> rfl
theorem g_intsM {ns : List Int} {R : List Int → Prop} : W1 (intsD (ns.map .int)) R = R ns := by
  rw [intsD_map]
  rfl
theorem g_slT {ds : List PyData} {lo hi : Option Int} : W1 (gSl (.tuple ds) lo hi) S = S (.val (.tuple (cutD ds lo hi))) := rfl
theorem g_slL {ds : List PyData} {lo hi : Option Int} : W1 (gSl (.list ds) lo hi) S = S (.own true (.lst (cutD ds lo hi))) := rfl
theorem g_isTrue {b : Bool} : W1 (gIs (.bool b) (.bool true)) Q = Q (.bool b) := by
  cases b <;> rfl
theorem g_notTrue {b : Bool} : W1 (gNot (.bool b) (.bool true)) Q = Q (.bool (!b)) := by
  cases b <;> rfl
theorem g_isNone {d : PyData} : W1 (gIs d .none) Q = Q (.bool (isND d)) := by
  cases d <;> rfl
theorem g_notNone {d : PyData} : W1 (gNot d .none) Q = Q (.bool (!isND d)) := by
  cases d <;> rfl
theorem W_eq {α β : Type} {r : Option (α × β)} {a : α} {b : β} (h : W r fun x y => x = a ∧ y = b) : r = some (a, b) := by
  obtain ⟨x, y, e, rfl, rfl⟩ := h.at_
  exact e
theorem at_lit {ds : List PyData} {k : Nat} : L2.atI ds (@OfNat.ofNat Int k instOfNat) = ds[k]? := by
  show L2.atI ds ((k : Nat) : Int) = ds[k]?
  unfold L2.atI L2.ixN
  rw [if_pos (Int.natCast_nonneg k)]
  by_cases h : k < ds.length
  · rw [if_pos (by omega)]
    rfl
  · rw [if_neg (by omega), List.getElem?_eq_none (by omega)]
    rfl
theorem at_0 {x0 : PyData} {l : List PyData} : L2.atI (x0 :: l) 0 = some x0 := @at_lit (x0 :: l) 0
theorem at_1 {x0 x1 : PyData} {l : List PyData} : L2.atI (x0 :: x1 :: l) 1 = some x1 := @at_lit (x0 :: x1 :: l) 1
theorem at_2 {x0 x1 x2 : PyData} {l : List PyData} : L2.atI (x0 :: x1 :: x2 :: l) 2 = some x2 := @at_lit (x0 :: x1 :: x2 :: l) 2
theorem at_3 {x0 x1 x2 x3 : PyData} {l : List PyData} : L2.atI (x0 :: x1 :: x2 :: x3 :: l) 3 = some x3 := @at_lit (x0 :: x1 :: x2 :: x3 :: l) 3
theorem at_4 {x0 x1 x2 x3 x4 : PyData} {l : List PyData} : L2.atI (x0 :: x1 :: x2 :: x3 :: x4 :: l) 4 = some x4 := @at_lit (x0 :: x1 :: x2 :: x3 :: x4 :: l) 4
theorem at_5 {x0 x1 x2 x3 x4 x5 : PyData} {l : List PyData} : L2.atI (x0 :: x1 :: x2 :: x3 :: x4 :: x5 :: l) 5 = some x5 := @at_lit (x0 :: x1 :: x2 :: x3 :: x4 :: x5 :: l) 5
theorem at_6 {x0 x1 x2 x3 x4 x5 x6 : PyData} {l : List PyData} : L2.atI (x0 :: x1 :: x2 :: x3 :: x4 :: x5 :: x6 :: l) 6 = some x6 := @at_lit (x0 :: x1 :: x2 :: x3 :: x4 :: x5 :: x6 :: l) 6
theorem at_7 {x0 x1 x2 x3 x4 x5 x6 x7 : PyData} {l : List PyData} : L2.atI (x0 :: x1 :: x2 :: x3 :: x4 :: x5 :: x6 :: x7 :: l) 7 = some x7 := @at_lit (x0 :: x1 :: x2 :: x3 :: x4 :: x5 :: x6 :: x7 :: l) 7
theorem at_8 {x0 x1 x2 x3 x4 x5 x6 x7 x8 : PyData} {l : List PyData} : L2.atI (x0 :: x1 :: x2 :: x3 :: x4 :: x5 :: x6 :: x7 :: x8 :: l) 8 = some x8 := @at_lit (x0 :: x1 :: x2 :: x3 :: x4 :: x5 :: x6 :: x7 :: x8 :: l) 8
theorem at_9 {x0 x1 x2 x3 x4 x5 x6 x7 x8 x9 : PyData} {l : List PyData} : L2.atI (x0 :: x1 :: x2 :: x3 :: x4 :: x5 :: x6 :: x7 :: x8 :: x9 :: l) 9 = some x9 := @at_lit (x0 :: x1 :: x2 :: x3 :: x4 :: x5 :: x6 :: x7 :: x8 :: x9 :: l) 9
theorem nc_0 : ((0 : Nat) : Int) = 0 := rfl
theorem nc_1 : ((1 : Nat) : Int) = 1 := rfl
theorem nc_2 : ((2 : Nat) : Int) = 2 := rfl
theorem nc_3 : ((3 : Nat) : Int) = 3 := rfl
theorem nc_4 : ((4 : Nat) : Int) = 4 := rfl
theorem nc_5 : ((5 : Nat) : Int) = 5 := rfl
theorem nc_6 : ((6 : Nat) : Int) = 6 := rfl
theorem nc_7 : ((7 : Nat) : Int) = 7 := rfl
theorem nc_8 : ((8 : Nat) : Int) = 8 := rfl
theorem nc_9 : ((9 : Nat) : Int) = 9 := rfl
theorem nc_10 : ((10 : Nat) : Int) = 10 := rfl
theorem nc_11 : ((11 : Nat) : Int) = 11 := rfl
theorem nc_12 : ((12 : Nat) : Int) = 12 := rfl
theorem nc_13 : ((13 : Nat) : Int) = 13 := rfl
theorem nc_14 : ((14 : Nat) : Int) = 14 := rfl
theorem nc_15 : ((15 : Nat) : Int) = 15 := rfl
theorem nc_16 : ((16 : Nat) : Int) = 16 := rfl
theorem nc_17 : ((17 : Nat) : Int) = 17 := rfl
theorem nc_18 : ((18 : Nat) : Int) = 18 := rfl
theorem nc_19 : ((19 : Nat) : Int) = 19 := rfl
theorem nc_20 : ((20 : Nat) : Int) = 20 := rfl
theorem DkOk.mono {n n' : Nat} {l : List Int} {m t : Int} (h : DkOk n l m t) (hn : n ≤ n') : DkOk n' l m t := ⟨h.1, h.2.1, h.2.2.1, by have := h.2.2.2.1; omega, h.2.2.2.2⟩
theorem rng_len (lo : Int) (n : Nat) : (rngD lo n).length = n := by
  unfold rngD
  rw [List.length_map, List.length_range]
theorem rng_zero (lo : Int) : rngD lo 0 = [] := rfl
theorem rng_succ (lo : Int) (n : Nat) : rngD lo (n + 1) = .int lo :: rngD (lo + 1) n := by
  unfold rngD
  rw [List.range_succ_eq_map, List.map_cons, List.map_map]
  congr 1
  · show PyData.int (lo + ((0 : Nat) : Int)) = _
    rw [Int.natCast_zero, Int.add_zero]
  · refine List.map_congr_left fun i _ => ?_
    show PyData.int (lo + ((i + 1 : Nat) : Int)) = PyData.int (lo + 1 + (i : Int))
    congr 1
    omega
end
theorem eb_no  : borS .no = .no := rfl
theorem ev_no  : valS .no = .no := rfl
theorem ed_no  : isDk .no = false := rfl
theorem ef_no  {k : Bool} : dkFit k .no = true := rfl
theorem em_no  {x : Ent} : merS .no x = .no := rfl
theorem ek_no  : keepS .no = .no := rfl
theorem eo_no  {x : Ent} : outE .no x = .no := rfl
theorem eb_val {d : PyData} : borS (.val d) = .val d := rfl
theorem ev_val {d : PyData} : valS (.val d) = .val d := rfl
theorem ed_val {d : PyData} : isDk (.val d) = false := rfl
theorem ef_val {d : PyData} {k : Bool} : dkFit k (.val d) = true := rfl
theorem em_val {d : PyData} {x : Ent} : merS (.val d) x = (.val d) := rfl
theorem ek_val {d : PyData} : keepS (.val d) = (.val d) := rfl
theorem eo_val {d : PyData} {x : Ent} : outE (.val d) x = .no := rfl
theorem eb_lst {fr : Bool} {ds : List PyData} : borS (.own fr (.lst ds)) = .val (.list ds) := rfl
theorem ev_lst {fr : Bool} {ds : List PyData} : valS (.own fr (.lst ds)) = .no := rfl
theorem ed_lst {fr : Bool} {ds : List PyData} : isDk (.own fr (.lst ds)) = false := rfl
theorem ef_lst {fr : Bool} {ds : List PyData} {k : Bool} : dkFit k (.own fr (.lst ds)) = true := rfl
theorem em_lst {fr : Bool} {ds : List PyData} {x : Ent} : merS (.own fr (.lst ds)) x = (.own fr (.lst ds)) := rfl
theorem ek_lst {fr : Bool} {ds : List PyData} : keepS (.own fr (.lst ds)) = (.own fr (.lst ds)) := rfl
theorem eb_dk {fr : Bool} {s : Nat} {l : List Int} {m t : Int} : borS (.own fr (.deck s l m t)) = .own false (.deck s l m t) := rfl
theorem ev_dk {fr : Bool} {s : Nat} {l : List Int} {m t : Int} : valS (.own fr (.deck s l m t)) = .no := rfl
theorem ed_dk {fr : Bool} {s : Nat} {l : List Int} {m t : Int} : isDk (.own fr (.deck s l m t)) = true := rfl
theorem ef_dk {fr : Bool} {s : Nat} {l : List Int} {m t : Int} {k : Bool} : dkFit k (.own fr (.deck s l m t)) = (fr == k) := rfl
theorem eb_scr {ns : List Int} : borS (.scr ns) = .no := rfl
theorem ev_scr {ns : List Int} : valS (.scr ns) = .no := rfl
theorem ed_scr {ns : List Int} : isDk (.scr ns) = false := rfl
theorem ef_scr {ns : List Int} {k : Bool} : dkFit k (.scr ns) = true := rfl
theorem em_scr {ns : List Int} {x : Ent} : merS (.scr ns) x = (.scr ns) := rfl
theorem ek_scr {ns : List Int} : keepS (.scr ns) = (.scr ns) := rfl
theorem eo_scr {ns : List Int} {x : Ent} : outE (.scr ns) x = .no := rfl
theorem eb_lent  : borS .lent = .no := rfl
theorem ev_lent  : valS .lent = .no := rfl
theorem ed_lent  : isDk .lent = false := rfl
theorem ef_lent  {k : Bool} : dkFit k .lent = true := rfl
theorem em_lent  {x : Ent} : merS .lent x = .lent := rfl
theorem ek_lent  : keepS .lent = .lent := rfl
theorem eo_lent  {x : Ent} : outE .lent x = .no := rfl
theorem em_dk {fr fr2 : Bool} {s s2 : Nat} {l l2 : List Int} {m t m2 t2 : Int} : merS (.own fr (.deck s l m t)) (.own fr2 (.deck s2 l2 m2 t2)) = .own fr (.deck s2 l2 m2 t2) := rfl
theorem eo_own {fr fr2 : Bool} {c c2 : Cell} : outE (.own fr c) (.own fr2 c2) = .own fr2 c2 := rfl
theorem er_val {d : PyData} : resE (.val d) = true := rfl
theorem er_own {c : Cell} : resE (.own true c) = true := rfl
theorem ez_val {d : PyData} : fz (.val d) = some d := rfl
theorem ez_own {ds : List PyData} : fz (.own true (.lst ds)) = some (.list ds) := rfl
theorem en_val {d : PyData} : nlE (.val d) = nlD d := rfl
theorem en_own {ds : List PyData} : nlE (.own true (.lst ds)) = nlAll ds := rfl
theorem bq_tt : (true == true) = true := rfl
theorem bq_tf : (true == false) = false := rfl
theorem bq_ft : (false == true) = false := rfl
theorem bq_ff : (false == false) = true := rfl
theorem frz_t {ρ : En} {i : Nat} {ds : List PyData} (h : ρ[i]? = some (.own true (.lst ds))) : frz i ρ = ρ.set i (.val (.list ds)) := by
  unfold frz
  rw [h]
theorem cut_take {xs : List PyData} (k : Nat) (h : k ≤ xs.length) : cutD xs none (some (k : Int)) = xs.take k := by
  have e1 : HT.sIx xs.length 0 none = 0 := rfl
  have e2 : HT.sIx xs.length xs.length (some (k : Int)) = k := by
    unfold HT.sIx
    simp only
    rw [if_neg (by omega), Int.toNat_natCast]
    omega
  unfold cutD
  rw [e1, e2]
  rfl
theorem cut_drop {xs : List PyData} (k : Nat) (h : k ≤ xs.length) : cutD xs (some (k : Int)) none = xs.drop k := by
  have e1 : HT.sIx xs.length xs.length none = xs.length := rfl
  have e2 : HT.sIx xs.length 0 (some (k : Int)) = k := by
    unfold HT.sIx
    simp only
    rw [if_neg (by omega), Int.toNat_natCast]
    omega
  unfold cutD
  rw [e1, e2]
  exact List.take_of_length_le (by rw [List.length_drop]; exact Nat.le_refl _)
theorem cT_1 {x0 : PyData} {l : List PyData} : cutD (x0 :: l) none (some 1) = [x0] := cut_take 1 (by simp)
theorem cD_1 {x0 : PyData} {l : List PyData} : cutD (x0 :: l) (some 1) none = l := cut_drop 1 (by simp)
theorem cT_2 {x0 x1 : PyData} {l : List PyData} : cutD (x0 :: x1 :: l) none (some 2) = [x0, x1] := cut_take 2 (by simp)
theorem cD_2 {x0 x1 : PyData} {l : List PyData} : cutD (x0 :: x1 :: l) (some 2) none = l := cut_drop 2 (by simp)
theorem cT_3 {x0 x1 x2 : PyData} {l : List PyData} : cutD (x0 :: x1 :: x2 :: l) none (some 3) = [x0, x1, x2] := cut_take 3 (by simp)
theorem cD_3 {x0 x1 x2 : PyData} {l : List PyData} : cutD (x0 :: x1 :: x2 :: l) (some 3) none = l := cut_drop 3 (by simp)
theorem cT_4 {x0 x1 x2 x3 : PyData} {l : List PyData} : cutD (x0 :: x1 :: x2 :: x3 :: l) none (some 4) = [x0, x1, x2, x3] := cut_take 4 (by simp)
theorem cD_4 {x0 x1 x2 x3 : PyData} {l : List PyData} : cutD (x0 :: x1 :: x2 :: x3 :: l) (some 4) none = l := cut_drop 4 (by simp)
theorem cT_5 {x0 x1 x2 x3 x4 : PyData} {l : List PyData} : cutD (x0 :: x1 :: x2 :: x3 :: x4 :: l) none (some 5) = [x0, x1, x2, x3, x4] := cut_take 5 (by simp)
theorem cD_5 {x0 x1 x2 x3 x4 : PyData} {l : List PyData} : cutD (x0 :: x1 :: x2 :: x3 :: x4 :: l) (some 5) none = l := cut_drop 5 (by simp)
theorem cT_6 {x0 x1 x2 x3 x4 x5 : PyData} {l : List PyData} : cutD (x0 :: x1 :: x2 :: x3 :: x4 :: x5 :: l) none (some 6) = [x0, x1, x2, x3, x4, x5] := cut_take 6 (by simp)
theorem cD_6 {x0 x1 x2 x3 x4 x5 : PyData} {l : List PyData} : cutD (x0 :: x1 :: x2 :: x3 :: x4 :: x5 :: l) (some 6) none = l := cut_drop 6 (by simp)
theorem cT_7 {x0 x1 x2 x3 x4 x5 x6 : PyData} {l : List PyData} : cutD (x0 :: x1 :: x2 :: x3 :: x4 :: x5 :: x6 :: l) none (some 7) = [x0, x1, x2, x3, x4, x5, x6] := cut_take 7 (by simp)
theorem cD_7 {x0 x1 x2 x3 x4 x5 x6 : PyData} {l : List PyData} : cutD (x0 :: x1 :: x2 :: x3 :: x4 :: x5 :: x6 :: l) (some 7) none = l := cut_drop 7 (by simp)
/-- an entry that is no cell -/
def Pl (e : Ent) : Prop := e = .no ∨ ∃ d, e = .val d
theorem Pl.no : Pl .no := .inl rfl
theorem Pl.val {d : PyData} : Pl (.val d) := .inr ⟨d, rfl⟩
theorem Pl.bor {e : Ent} (h : Pl e) : borS e = e := by
  rcases h with rfl | ⟨d, rfl⟩ <;> rfl
theorem Pl.fit {e : Ent} (h : Pl e) {fr : Bool} : dkFit fr e = true := by
  rcases h with rfl | ⟨d, rfl⟩ <;> rfl
theorem Pl.dk {e : Ent} (h : Pl e) : isDk e = false := by
  rcases h with rfl | ⟨d, rfl⟩ <;> rfl
theorem Pl.mer {e x : Ent} (h : Pl e) : merS e x = e := by
  rcases h with rfl | ⟨d, rfl⟩ <;> rfl
theorem Pl.pin {e : Ent} (h : Pl e) : pinE e = false := by
  rcases h with rfl | ⟨d, rfl⟩ <;> rfl
theorem Pl.vs {e : Ent} (h : Pl e) : valS e = e := by
  rcases h with rfl | ⟨d, rfl⟩ <;> rfl
theorem lex5 {a b c d e a' b' c' d' e' : Int} : HT.lexLt [a, b, c, d, e] [a', b', c', d', e'] = decide (a < a' ∨ a = a' ∧ (b < b' ∨ b = b' ∧ (c < c' ∨ c = c' ∧ (d < d' ∨ d = d' ∧ e < e')))) := by
  simp only [HT.lexLt]
  repeat' split
  all_goals rw [Bool.eq_iff_iff]
  all_goals simp only [decide_eq_true_eq, Bool.false_eq_true, false_iff]
  all_goals omega
theorem enum_nil (n : Nat) : enumD n [] = [] := rfl
theorem enum_cons (n : Nat) (d : PyData) (ds : List PyData) : enumD n (d :: ds) = .tuple [.int n, d] :: enumD (n + 1) ds := rfl
end Fj

set_option Elab.async false
set_option linter.all false
set_option maxRecDepth 100000
set_option maxHeartbeats 4000000
set_option autoImplicit false
/-! More rules: several names, sorted, isinstance of two. -/
namespace Fj
open PySem PySem.Spec PyProof.Rows L2

section
variable {ρ : En} {Q : PyData → En → Prop} {S : Ent → En → Prop} {Z : Fl → Prop} {A : List PyData → En → Prop} {E : List Ent → En → Prop} {B : En → Prop}
theorem w_E0 : W (mE0 ρ) E = E [] ρ := rfl
theorem w_E1 {m : MO} {n : ME} : W (mE1 m n ρ) E = W (m ρ) fun e ρ => W (n ρ) fun es ρ => E (e :: es) ρ := by
  unfold mE1
  cases m ρ with
  | none => rfl
  | some p =>
    obtain ⟨e, ρ⟩ := p
    simp only [W_some]
    cases n ρ <;> rfl
theorem w_par {is : List Nat} {n : ME} : W1 (mPar is n ρ) Z = W (n ρ) fun es ρ => W1 (mPuts is es ρ) fun ρ => Z (.nx ρ) := by
  unfold mPar
  cases n ρ with
  | none => rfl
  | some p =>
    obtain ⟨es, ρ⟩ := p
    simp only [W_some]
    cases mPuts is es ρ <;> rfl
theorem w_puts0 : W1 (mPuts [] [] ρ) B = B ρ := rfl
theorem w_puts1 {i : Nat} {is : List Nat} {e : Ent} {es : List Ent} : W1 (mPuts (i :: is) (e :: es) ρ) B = (freeE ρ i = true ∧ W1 (mPuts is es (ρ.set i e)) B) := by
  show W1 (if freeE ρ i = true then mPuts is es (ρ.set i e) else none) B = _
  by_cases h : freeE ρ i = true
  · rw [if_pos h]
    exact propext ⟨fun z => ⟨h, z⟩, fun z => z.2⟩
  · rw [if_neg h]
    exact propext ⟨fun z => z.elim, fun z => absurd z.1 h⟩
theorem w_ss {m : MV} : W (mSS m ρ) S = W (m ρ) fun d ρ => W1 (listOf d) fun ds => W1 (tupsD ds) fun nss => tupsOk nss = true ∧ S (.own true (.lst ((isort HT.lexLt (dedup nss)).map tupI))) ρ := by
  unfold mSS
  cases m ρ with
  | none => rfl
  | some p =>
    obtain ⟨d, ρ⟩ := p
    cases d with
    | list ds =>
      simp only [W_some, listOf, W1_some]
      cases tupsD ds with
      | none => rfl
      | some nss =>
        simp only [W1_some]
        by_cases h : tupsOk nss = true
        · rw [if_pos h]
          exact propext ⟨fun z => ⟨h, z⟩, fun z => z.2⟩
        · rw [if_neg h]
          exact propext ⟨fun z => z.elim, fun z => absurd z.1 h⟩
    | _ => rfl
theorem w_tups {nss : List (List Int)} {R : List (List Int) → Prop} : W1 (tupsD (nss.map tupI)) R = R nss := by
  rw [tupsD_map]
  rfl
theorem g_sortI {ns : List Int} {R : Ent → Prop} : W1 (gSorted [.list (ns.map .int)]) R = R (.own true (.lst ((isort (fun i j => decide (i < j)) ns).map .int))) := by
  unfold gSorted gSortI
  simp only [intsD_map, Option.map_some]
  rfl
theorem g_sortT {nss : List (List Int)} (h : tupsOk nss = true) {R : Ent → Prop} : W1 (gSorted [.list (nss.map tupI)]) R = R (.own true (.lst ((isort HT.lexLt nss).map tupI))) := by
  cases nss with
  | nil => rfl
  | cons n nss =>
    have e : gSortI [.list ((n :: nss).map tupI)] = none := rfl
    unfold gSorted
    rw [e, Option.none_or]
    unfold gSortT
    simp only [tupsD_map, h, if_true]
    rfl
theorem g_sortP {nss : List (List Int)} (h : ∀ n ∈ nss, n.length = 2) {R : Ent → Prop} : W1 (gSorted [.list (nss.map tupI)]) R = R (.own true (.lst ((isort HT.lexLt nss).map tupI))) := by
  cases nss with
  | nil => rfl
  | cons n nss =>
    have e : gSortI [.list ((n :: nss).map tupI)] = none := rfl
    have e2 : ((n :: nss).all fun ns => ns.length == 2) = true := List.all_eq_true.mpr fun m hm => beq_iff_eq.mpr (h m hm)
    have e3 : gSortP [.list ((n :: nss).map tupI)] = some (.own true (.lst ((isort HT.lexLt (n :: nss)).map tupI))) := by
      unfold gSortP
      simp only [tupsD_map, e2, if_true]
    by_cases ok : tupsOk (n :: nss) = true
    · exact g_sortT ok
    · have e4 : gSortT [.list ((n :: nss).map tupI)] = none := by
        unfold gSortT
        simp only [tupsD_map, if_neg ok]
      unfold gSorted
      rw [e, Option.none_or, e4, Option.none_or, e3]
      rfl
theorem w_isi2 {T U : String} {m : MV} : W (mIsi2 T U m ρ) Q = W (m ρ) fun d ρ => W1 (kitB (tyN d) T) fun a => IfB a (Q (.bool true) ρ) (W1 (kitB (tyN d) U) fun b => Q (.bool b) ρ) := by
  unfold mIsi2
  cases m ρ with
  | none => rfl
  | some p =>
    obtain ⟨d, ρ⟩ := p
    simp only [W_some]
    cases kitB (tyN d) T with
    | none => rfl
    | some a =>
      simp only [W1_some]
      cases a with
      | true => exact eq_t _ _
      | false =>
        refine Eq.trans ?_ (eq_f _ _)
        simp only
        cases kitB (tyN d) U <;> rfl
def mvOf : Ent → Option (Ent × Bool)
  | .val d => some (.val d, false)
  | .own true ce => some (.own true ce, true)
  | _ => none
theorem mv_val {d : PyData} : mvOf (.val d) = some (.val d, false) := rfl
theorem mv_own {ce : Cell} : mvOf (.own true ce) = some (.own true ce, true) := rfl
theorem x_move {i : Nat} : W (mMove i ρ) S = W1 ρ[i]? fun e => W1 (mvOf e) fun q => S q.1 (if q.2 = true then ρ.set i .lent else ρ) := by
  rw [w_move]
  refine W1_fn fun e => ?_
  apply propext
  constructor
  · rintro (⟨d, rfl, h⟩ | ⟨ce, rfl, h⟩)
    · exact h
    · exact h
  · intro h
    cases e with
    | val d => exact .inl ⟨d, rfl, h⟩
    | own fr ce =>
      cases fr with
      | true => exact .inr ⟨ce, rfl, h⟩
      | false => exact h.elim
    | no => exact h.elim
    | scr ns => exact h.elim
    | lent => exact h.elim
    | fzo _ _ _ => exact h.elim
def int3 : List PyData → Option (Int × Int × Int)
  | [.int i, .int j, .int k] => some (i, j, k)
  | _ => none
theorem int3_of {i j k : Int} : int3 [.int i, .int j, .int k] = some (i, j, k) := rfl
theorem w_r3 {n : MA} : W (mR3 n ρ) A = W (n ρ) fun ds ρ => W1 (int3 ds) fun q => R3ok q.1 q.2.1 q.2.2 ∧ A (rngCD q.1 q.2.2 (Builtin.Range.rangeSize q.1 q.2.1 q.2.2).toNat) ρ := by
  unfold mR3
  cases n ρ with
  | none => rfl
  | some p =>
    obtain ⟨ds, ρ⟩ := p
    simp only [W_some]
    apply propext
    constructor
    · intro h
      split at h
      · rename_i i j k _ hh
        cases hh
        split at h
        · rename_i hc
          exact ⟨hc, h⟩
        · exact h.elim
      · exact h.elim
    · intro h
      unfold int3 at h
      split at h
      · obtain ⟨hc, h⟩ := h
        simp only [if_pos hc]
        exact h
      · exact h.elim
def zip2 : List PyData → Option (List PyData)
  | [.list xs, .list ys] => some (zipD xs ys)
  | [.tuple xs, .tuple ys] => some (zipD xs ys)
  | _ => none
theorem zip2_L {xs ys : List PyData} : zip2 [.list xs, .list ys] = some (zipD xs ys) := rfl
theorem zip2_T {xs ys : List PyData} : zip2 [.tuple xs, .tuple ys] = some (zipD xs ys) := rfl
theorem w_zip {n : MA} : W (mZip n ρ) A = W (n ρ) fun ds ρ => W1 (zip2 ds) fun zs => A zs ρ := by
  unfold mZip
  cases n ρ with
  | none => rfl
  | some p =>
    obtain ⟨ds, ρ⟩ := p
    rcases ds with _ | ⟨d, _ | ⟨e, _ | ⟨f, r⟩⟩⟩
    · rfl
    · cases d <;> rfl
    · cases d <;> cases e <;> rfl
    · cases d <;> cases e <;> rfl
end
end Fj

set_option Elab.async false
set_option linter.all false
set_option maxRecDepth 100000
set_option maxHeartbeats 4000000
set_option autoImplicit false
/-! Data of all kinds: shape, text, likeness; comprehensions that keep their surroundings. -/
namespace Fj
open PySem PySem.Spec PyProof.Rows L2

/-- data of depth k, bulk w, with short leaves -/
structure Dat (k w : Nat) (d : PyData) : Prop where
  lay : PyData.canLay0 d = true
  dep : PyData.depth d ≤ k
  sho : PyData.showable d = true
  sht : PyData.leavesShort 13 d = true
  blk : PyData.bulk d ≤ w
structure DatL (k w : Nat) (ds : List PyData) : Prop where
  lay : PyData.canLayAll0 ds = true
  dep : PyData.depthAll ds ≤ k
  sho : PyData.showableAll ds = true
  sht : PyData.leavesShortAll 13 ds = true
  blk : PyData.bulkAll ds ≤ w
theorem Dat.mono {k w k' w' : Nat} {d : PyData} (h : Dat k w d) (hk : k ≤ k') (hw : w ≤ w') : Dat k' w' d := ⟨h.lay, Nat.le_trans h.dep hk, h.sho, h.sht, Nat.le_trans h.blk hw⟩
theorem DatL.mono {k w k' w' : Nat} {d : List PyData} (h : DatL k w d) (hk : k ≤ k') (hw : w ≤ w') : DatL k' w' d := ⟨h.lay, Nat.le_trans h.dep hk, h.sho, h.sht, Nat.le_trans h.blk hw⟩
theorem Dat.none {k w : Nat} : Dat k w .none := ⟨by simp [PyData.canLay0], by simp [PyData.depth], by simp [PyData.showable], by simp [PyData.leavesShort], by simp [PyData.bulk]⟩
theorem Dat.bool {k w : Nat} {b : Bool} : Dat k w (.bool b) := ⟨by simp [PyData.canLay0], by simp [PyData.depth], by simp [PyData.showable], by simp [PyData.leavesShort], by simp [PyData.bulk]⟩
theorem Dat.int {k w : Nat} {i : Int} (h : i.natAbs < 10 ^ 12) : Dat k w (.int i) := by
  have hl : i.natAbs.log2 < 1920 := log2_small (Nat.lt_of_lt_of_le h (Nat.le_trans (by decide : (10:Nat) ^ 12 ≤ 2 ^ 128) (Nat.pow_le_pow_right (by decide) (by decide)))) (by decide)
  refine ⟨by simp [PyData.canLay0], by simp [PyData.depth], ?_, ?_, by simp [PyData.bulk]⟩
  · unfold PyData.showable
    exact decide_eq_true hl
  · unfold PyData.leavesShort
    exact decide_eq_true (PyData.shown_int_le h)
theorem DatL.nil {k w : Nat} : DatL k w [] := ⟨by simp [PyData.canLayAll0], by simp [PyData.depthAll], by simp [PyData.showableAll], by simp [PyData.leavesShortAll], by simp [PyData.bulkAll]⟩
theorem DatL.cons {k a b : Nat} {d : PyData} {ds : List PyData} (h : Dat k a d) (t : DatL k b ds) : DatL k (a + 1 + b) (d :: ds) := by
  obtain ⟨h1, h2, h3, h4, h5⟩ := h
  obtain ⟨t1, t2, t3, t4, t5⟩ := t
  refine ⟨by unfold PyData.canLayAll0; rw [h1, t1]; rfl, by unfold PyData.depthAll; omega, by unfold PyData.showableAll; rw [h3, t3]; rfl, by unfold PyData.leavesShortAll; rw [h4, t4]; rfl, by unfold PyData.bulkAll; omega⟩
theorem DatL.of {k w : Nat} : ∀ {ds : List PyData}, (∀ d ∈ ds, Dat k w d) → DatL k ((w + 1) * ds.length) ds
  | [], _ => .nil
  | d :: ds, h => by
    have := DatL.cons (h d (List.mem_cons_self ..)) (DatL.of fun x hx => h x (List.mem_cons_of_mem _ hx))
    refine this.mono (Nat.le_refl _) ?_
    rw [List.length_cons, Nat.mul_add, Nat.mul_one]
    omega
theorem Dat.tup {k w : Nat} {ds : List PyData} (h : DatL k w ds) : Dat (k + 1) w (.tuple ds) :=
  ⟨by unfold PyData.canLay0; exact h.lay, by unfold PyData.depth; exact Nat.succ_le_succ h.dep, by unfold PyData.showable; exact h.sho, by unfold PyData.leavesShort; exact h.sht, by unfold PyData.bulk; exact h.blk⟩
theorem Dat.lst {k w : Nat} {ds : List PyData} (h : DatL k w ds) : Dat (k + 1) w (.list ds) :=
  ⟨by unfold PyData.canLay0; exact h.lay, by unfold PyData.depth; exact Nat.succ_le_succ h.dep, by unfold PyData.showable; exact h.sho, by unfold PyData.leavesShort; exact h.sht, by unfold PyData.bulk; exact h.blk⟩
theorem Dat.shaped {k w : Nat} {d : PyData} (h : Dat k w d) (hk : k ≤ 64) : SeqAt.shaped d = true := by
  unfold SeqAt.shaped
  rw [h.lay]
  exact decide_eq_true (Nat.le_trans h.dep hk)
theorem Dat.rep {k w : Nat} {d : PyData} (h : Dat k w d) (hk : k ≤ 64) (hw : w ≤ 6000) : d.showable = true ∧ SeqAt.shaped d = true ∧ d.shown.length ≤ 100000 := by
  refine ⟨h.sho, h.shaped hk, ?_⟩
  have := PyData.shown_le_bulk 13 (by decide) d h.sht
  have := h.blk
  omega
/-! likeness -/
mutual
def sim : PyData → Bool
  | .none => true
  | .int _ => true
  | .str _ => true
  | .list xs => simAll xs
  | .tuple xs => simAll xs
  | .bool _ => false
  | .dict _ => false
def simAll : List PyData → Bool
  | [] => true
  | x :: xs => sim x && simAll xs
end
mutual
theorem eqv_iff : ∀ x y : PyData, sim x = true → sim y = true → (PyData.eqv x y = true ↔ x = y)
  | .none, y, _, hy => by cases y <;> simp [PyData.eqv]
  | .int i, y, _, hy => by
    cases y with
    | bool b => simp [sim] at hy
    | _ => simp [PyData.eqv]
  | .str i, y, _, hy => by cases y <;> simp [PyData.eqv]
  | .list xs, y, hx, hy => by
    cases y with
    | list ys =>
      have := eqvAll_iff xs ys (by simpa [sim] using hx) (by simpa [sim] using hy)
      simpa [PyData.eqv] using this
    | _ => simp [PyData.eqv]
  | .tuple xs, y, hx, hy => by
    cases y with
    | tuple ys =>
      have := eqvAll_iff xs ys (by simpa [sim] using hx) (by simpa [sim] using hy)
      simpa [PyData.eqv] using this
    | _ => simp [PyData.eqv]
  | .bool b, y, hx, _ => by simp [sim] at hx
  | .dict b, y, hx, _ => by simp [sim] at hx
theorem eqvAll_iff : ∀ xs ys : List PyData, simAll xs = true → simAll ys = true → (PyData.eqvAll xs ys = true ↔ xs = ys)
  | [], [], _, _ => by simp [PyData.eqvAll]
  | [], y :: ys, _, _ => by simp [PyData.eqvAll]
  | x :: xs, [], _, _ => by simp [PyData.eqvAll]
  | x :: xs, y :: ys, hx, hy => by
    have hx' : sim x = true ∧ simAll xs = true := by simpa [simAll] using hx
    have hy' : sim y = true ∧ simAll ys = true := by simpa [simAll] using hy
    have h1 := eqv_iff x y hx'.1 hy'.1
    have h2 := eqvAll_iff xs ys hx'.2 hy'.2
    simp [PyData.eqvAll, h1, h2]
end
theorem simAll_of : ∀ {ds : List PyData}, (∀ d ∈ ds, sim d = true) → simAll ds = true
  | [], _ => by simp [simAll]
  | d :: ds, h => by
    unfold simAll
    rw [h d (List.mem_cons_self ..), simAll_of fun x hx => h x (List.mem_cons_of_mem _ hx)]
    rfl
theorem simAll_ints : ∀ ns : List Int, simAll (ns.map .int) = true
  | [] => by simp [simAll]
  | n :: ns => by
    rw [List.map_cons]
    unfold simAll
    rw [simAll_ints ns]
    simp [sim]
theorem g_eqD {xs ys : List PyData} {Q : PyData → Prop} (h1 : SeqAt.shaped (.tuple xs) = true) (h2 : SeqAt.shaped (.tuple ys) = true) (s1 : simAll xs = true) (s2 : simAll ys = true) {b : Bool} (hb : b = true ↔ xs = ys) : W1 (gEq (.tuple xs) (.tuple ys)) Q = Q (.bool b) := by
  unfold gEq gEqS gEqD
  simp only [Option.none_or]
  rw [h1, h2]
  simp only [Bool.and_self, if_true, W1_some]
  have e : PyData.eqv (.tuple xs) (.tuple ys) = b := by
    rw [Bool.eq_iff_iff, hb]
    have := eqvAll_iff xs ys s1 s2
    simpa [PyData.eqv] using this
  rw [e]
theorem g_neD {xs ys : List PyData} {Q : PyData → Prop} (h1 : SeqAt.shaped (.tuple xs) = true) (h2 : SeqAt.shaped (.tuple ys) = true) (s1 : simAll xs = true) (s2 : simAll ys = true) {b : Bool} (hb : b = true ↔ xs = ys) : W1 (gNe (.tuple xs) (.tuple ys)) Q = Q (.bool (!b)) := by
  unfold gNe gNeS gNeD
  simp only [Option.none_or]
  rw [h1, h2]
  simp only [Bool.and_self, if_true, W1_some]
  have e : PyData.eqv (.tuple xs) (.tuple ys) = b := by
    rw [Bool.eq_iff_iff, hb]
    have := eqvAll_iff xs ys s1 s2
    simpa [PyData.eqv] using this
  rw [e]
theorem shaped_bool {b : Bool} : SeqAt.shaped (.bool b) = true := (Dat.bool (k := 1) (w := 0)).shaped (by decide)
theorem eqv_bool {a b : Bool} : PyData.eqv (.bool a) (.bool b) = (a == b) := by simp [PyData.eqv]
theorem g_eqB {a b : Bool} {Q : PyData → Prop} : W1 (gEq (.bool a) (.bool b)) Q = Q (.bool (a == b)) := by
  unfold gEq gEqS gEqD
  simp only [Option.none_or]
  rw [shaped_bool, shaped_bool]
  simp only [Bool.and_self, if_true, W1_some, eqv_bool]
theorem g_neB {a b : Bool} {Q : PyData → Prop} : W1 (gNe (.bool a) (.bool b)) Q = Q (.bool (!(a == b))) := by
  unfold gNe gNeS gNeD
  simp only [Option.none_or]
  rw [shaped_bool, shaped_bool]
  simp only [Bool.and_self, if_true, W1_some, eqv_bool]
theorem boolsM : ∀ bs : List Bool, boolsD (bs.map .bool) = some bs
  | [] => rfl
  | b :: bs => by
    rw [List.map_cons]
    show (boolsD (bs.map .bool)).map (fun l => b :: l) = _
    rw [boolsM bs]
    rfl
theorem g_boolsM {bs : List Bool} {R : List Bool → Prop} : W1 (boolsD (bs.map .bool)) R = R bs := by
  rw [boolsM]
  rfl
theorem g_boolsF {α : Type} {f : α → Bool} {xs : List α} {R : List Bool → Prop} : W1 (boolsD (xs.map fun x => .bool (f x))) R = R (xs.map f) := by
  rw [show (xs.map fun x => PyData.bool (f x)) = (xs.map f).map .bool by rw [List.map_map]; rfl, boolsM]
  rfl
theorem eqvAll_nil : ∀ ds : List PyData, PyData.eqvAll ds [] = ds.isEmpty
  | [] => by simp [PyData.eqvAll]
  | d :: ds => by simp [PyData.eqvAll]
theorem shaped_nilT : SeqAt.shaped (.tuple []) = true := by decide
theorem g_eqNilT {ds : List PyData} {Q : PyData → Prop} : W1 (gEq (.tuple ds) (.tuple [])) Q = (SeqAt.shaped (.tuple ds) = true ∧ Q (.bool ds.isEmpty)) := by
  have e : PyData.eqv (.tuple ds) (.tuple []) = ds.isEmpty := by
    have := eqvAll_nil ds
    simpa [PyData.eqv] using this
  unfold gEq gEqS gEqD
  simp only [Option.none_or]
  rw [shaped_nilT, Bool.and_true, e]
  exact W1_if
theorem g_neNilT {ds : List PyData} {Q : PyData → Prop} : W1 (gNe (.tuple ds) (.tuple [])) Q = (SeqAt.shaped (.tuple ds) = true ∧ Q (.bool (!ds.isEmpty))) := by
  have e : PyData.eqv (.tuple ds) (.tuple []) = ds.isEmpty := by
    have := eqvAll_nil ds
    simpa [PyData.eqv] using this
  unfold gNe gNeS gNeD
  simp only [Option.none_or]
  rw [shaped_nilT, Bool.and_true, e]
  exact W1_if
theorem cut_1 (xs : List PyData) : cutD xs (some 1) none = xs.drop 1 := by
  cases xs with
  | nil => rfl
  | cons x xs => exact cD_1
theorem all_true {α : Type} (xs : List α) : (xs.map fun _ => true).all id = true := by
  induction xs with
  | nil => rfl
  | cons x xs ih => rw [List.map_cons, List.all_cons, ih]; rfl
theorem Dat.str {k : Nat} {x : Str} (h1 : PyData.canLay0 (.str x) = true) (h2 : x.cps.toList.all (fun c => decide (c < 16 ^ 8)) = true) : Dat k x.cps.size (.str x) :=
  ⟨h1, by simp [PyData.depth], by simp [PyData.showable], by unfold PyData.leavesShort; exact h2, by unfold PyData.bulk; exact Nat.le_refl _⟩
/-! comprehensions -/
/-- the items for which p tells f, the surroundings stay -/
theorem w_lcFil {α : Type} {g : MG} {t : MT} {m : MV} {vs : List Nat} {Q : List PyData → En → Prop} {ρ : En} (gd : α → PyData) (p : α → Bool) (f : α → PyData) {xs : List α}
    (h : ∀ x ∈ xs, W1 (g (gd x) ρ) fun ρ1 => W (t ρ1) fun b ρ2 => b = p x ∧ (b = true → W (m ρ2) fun y ρ3 => y = f x ∧ vs.all (freeE ρ3) = true ∧ wipeE ρ3 vs = ρ) ∧ (b = false → vs.all (freeE ρ2) = true ∧ wipeE ρ2 vs = ρ)) (hl : xs.length ≤ 100000) (q : Q ((xs.filter p).map f) ρ) : W (lcL g t m vs (xs.map gd) [] ρ) Q := by
  refine w_lcL (fun ds acc ρ' => ∃ done rest, xs = done ++ rest ∧ ds = rest.map gd ∧ acc = (done.filter p).map f ∧ ρ' = ρ) ?_ ?_ _ [] ρ ⟨[], xs, rfl, rfl, rfl, rfl⟩
  · intro d ds acc ρ' ⟨done, rest, e, e2, e3, e4⟩
    subst e3 e4
    cases rest with
    | nil => cases e2
    | cons x rest =>
      rw [List.map_cons] at e2
      injection e2 with e5 e6
      subst e5 e6
      have hx : x ∈ xs := by rw [e]; exact List.mem_append_right _ (List.mem_cons_self ..)
      refine (h x hx).mono fun ρ1 h1 => h1.mono fun b ρ2 h2 => ⟨fun hb => (h2.2.1 hb).mono fun y ρ3 h3 => ⟨?_, h3.2.1, done ++ [x], rest, by rw [e]; simp, rfl, ?_, h3.2.2⟩, fun hb => ⟨(h2.2.2 hb).1, done ++ [x], rest, by rw [e]; simp, rfl, ?_, (h2.2.2 hb).2⟩⟩
      · have := congrArg List.length e
        rw [List.length_append, List.length_cons] at this
        rw [List.length_map]
        have := List.length_filter_le p done
        omega
      · rw [h3.1, List.filter_append, List.map_append, List.filter_cons_of_pos (by rw [← h2.1]; exact hb)]
        rfl
      · rw [List.filter_append, List.filter_cons_of_neg (by rw [← h2.1, hb]; exact Bool.false_ne_true), List.filter_nil, List.append_nil]
  · intro acc ρ' ⟨done, rest, e, e2, e3, e4⟩
    have : rest = [] := List.map_eq_nil_iff.mp e2.symm
    subst this e3 e4
    rw [List.append_nil] at e
    rw [← e]
    exact q
/-- each item tells f, the surroundings stay -/
theorem w_lcMap {α : Type} {g : MG} {t : MT} {m : MV} {vs : List Nat} {Q : List PyData → En → Prop} {ρ : En} (gd : α → PyData) (f : α → PyData) {xs : List α}
    (h : ∀ x ∈ xs, W1 (g (gd x) ρ) fun ρ1 => W (t ρ1) fun b ρ2 => b = true ∧ W (m ρ2) fun y ρ3 => y = f x ∧ vs.all (freeE ρ3) = true ∧ wipeE ρ3 vs = ρ) (hl : xs.length ≤ 100000) (q : Q (xs.map f) ρ) : W (lcL g t m vs (xs.map gd) [] ρ) Q := by
  refine w_lcFil gd (fun _ => true) f (fun x hx => (h x hx).mono fun ρ1 h1 => h1.mono fun b ρ2 h2 => ⟨h2.1, fun _ => h2.2, fun z => ?_⟩) hl ?_
  · rw [h2.1] at z
    cases z
  · rw [List.filter_eq_self.mpr fun _ _ => rfl]
    exact q
theorem any_filter {α β : Type} (p : α → Bool) (f : α → β) (xs : List α) : (!((xs.filter p).map f).isEmpty) = xs.any p := by
  induction xs with
  | nil => rfl
  | cons x xs ih =>
    rw [List.any_cons]
    cases h : p x with
    | true => rw [List.filter_cons_of_pos h]; rfl
    | false => rw [List.filter_cons_of_neg (by rw [h]; exact Bool.false_ne_true), ih]; rfl
theorem rngD_map (lo : Int) (n : Nat) : rngD lo n = (List.range n).map fun (i : Nat) => PyData.int (lo + (i : Int)) := rfl
theorem cut_mid {xs : List PyData} {i k : Nat} (h1 : i ≤ k) (h2 : k ≤ xs.length) : cutD xs (some (i : Int)) (some (k : Int)) = (xs.drop i).take (k - i) := by
  have e1 : HT.sIx xs.length 0 (some (i : Int)) = i := by
    unfold HT.sIx
    simp only
    rw [if_neg (by omega), Int.toNat_natCast]
    omega
  have e2 : HT.sIx xs.length xs.length (some (k : Int)) = k := by
    unfold HT.sIx
    simp only
    rw [if_neg (by omega), Int.toNat_natCast]
    omega
  unfold cutD
  rw [e1, e2]
theorem any_false (bs : List Bool) : (!(bs.map PyData.bool).any fun z => PyData.eqv z (.bool false)) = bs.all id := by
  induction bs with
  | nil => rfl
  | cons b bs ih =>
    rw [List.map_cons, List.any_cons, eqv_bool, Bool.not_or, ih, List.all_cons]
    cases b <;> rfl
theorem shaped_bools (bs : List Bool) : SeqAt.shaped (.list (bs.map .bool)) = true :=
  (Dat.lst (DatL.of (k := 0) (w := 0) fun d hd => by
    obtain ⟨b, _, rfl⟩ := List.mem_map.mp hd
    exact .bool)).shaped (by decide)
theorem g_noFalse {bs : List Bool} {Q : PyData → Prop} : W1 (gNotInD (.bool false) (.list (bs.map .bool))) Q = Q (.bool (bs.all id)) := by
  unfold gNotInD
  simp only
  rw [shaped_bool, shaped_bools, any_false]
  rfl
theorem g_min1 {n : List Int} {ns : List (List Int)} {S : Ent → Prop} : W1 (gMin1 [.list ((n :: ns).map tupI)]) S = S (.val (tupI (minRow n ns))) := by
  unfold gMin1
  simp only [tupsD_map]
  rfl
end Fj

set_option Elab.async false
set_option linter.all false
set_option maxRecDepth 100000
set_option maxHeartbeats 4000000
set_option autoImplicit false
/-! The rules in bundles. -/
namespace Fj
open PySem PySem.Spec PyProof.Rows L2

theorem wp0 : type_of% @Fj.w_C ∧ type_of% @Fj.w_var ∧ type_of% @Fj.w_fz ∧ type_of% @Fj.w_val ∧ type_of% @Fj.w_bin ∧ type_of% @Fj.w_test ∧ type_of% @Fj.w_tnot ∧ type_of% @Fj.w_tand ∧ type_of% @Fj.w_tor ∧ type_of% @Fj.w_not ∧ type_of% @Fj.w_andV ∧ type_of% @Fj.w_orV ∧ type_of% @Fj.w_if ∧ type_of% @Fj.w_ifS ∧ type_of% @Fj.w_chain ∧ type_of% @Fj.w_nil := ⟨@Fj.w_C, @Fj.w_var, @Fj.w_fz, @Fj.w_val, @Fj.w_bin, @Fj.w_test, @Fj.w_tnot, @Fj.w_tand, @Fj.w_tor, @Fj.w_not, @Fj.w_andV, @Fj.w_orV, @Fj.w_if, @Fj.w_ifS, @Fj.w_chain, @Fj.w_nil⟩
theorem wp1 : type_of% @Fj.w_cons ∧ type_of% @Fj.w_tup ∧ type_of% @Fj.w_lst ∧ type_of% @Fj.x_cat ∧ type_of% @Fj.w_p0 ∧ type_of% @Fj.w_p1 ∧ type_of% @Fj.w_sl ∧ type_of% @Fj.w_rev ∧ type_of% @Fj.w_neg ∧ type_of% @Fj.w_scrSl ∧ type_of% @Fj.w_cb ∧ type_of% @Fj.w_isi ∧ type_of% @Fj.w_it ∧ type_of% @Fj.x_r1 ∧ type_of% @Fj.x_r2 ∧ type_of% @Fj.x_enum := ⟨@Fj.w_cons, @Fj.w_tup, @Fj.w_lst, @Fj.x_cat, @Fj.w_p0, @Fj.w_p1, @Fj.w_sl, @Fj.w_rev, @Fj.w_neg, @Fj.w_scrSl, @Fj.w_cb, @Fj.w_isi, @Fj.w_it, @Fj.x_r1, @Fj.x_r2, @Fj.x_enum⟩
theorem wp2 : type_of% @Fj.w_N ∧ type_of% @Fj.w_N0 ∧ type_of% @Fj.w_N1 ∧ type_of% @Fj.w_TupG ∧ type_of% @Fj.w_nx ∧ type_of% @Fj.w_seq ∧ type_of% @Fj.w_frz ∧ type_of% @Fj.w_asg ∧ type_of% @Fj.w_own ∧ type_of% @Fj.w_ret ∧ type_of% @Fj.w_drop ∧ type_of% @Fj.w_bad ∧ type_of% @Fj.w_for ∧ type_of% @Fj.x_app ∧ type_of% @Fj.x_ext ∧ type_of% @Fj.w_fn := ⟨@Fj.w_N, @Fj.w_N0, @Fj.w_N1, @Fj.w_TupG, @Fj.w_nx, @Fj.w_seq, @Fj.w_frz, @Fj.w_asg, @Fj.w_own, @Fj.w_ret, @Fj.w_drop, @Fj.w_bad, @Fj.w_for, @Fj.x_app, @Fj.x_ext, @Fj.w_fn⟩
theorem wp3 : type_of% @Fj.w_call ∧ type_of% @Fj.x_lend ∧ type_of% @Fj.w_scr ∧ type_of% @Fj.w_bor ∧ type_of% @Fj.w_borT ∧ type_of% @Fj.w_lc ∧ type_of% @Fj.x_move ∧ type_of% @Fj.w_ownV ∧ type_of% @Fj.w_yes ∧ type_of% @Fj.x_dkM ∧ type_of% @Fj.x_dkT ∧ type_of% @Fj.x_dkL ∧ type_of% @Fj.x_dkPop ∧ type_of% @Fj.x_dkApp ∧ type_of% @Fj.x_dkSetM ∧ type_of% @Fj.x_dkSetT := ⟨@Fj.w_call, @Fj.x_lend, @Fj.w_scr, @Fj.w_bor, @Fj.w_borT, @Fj.w_lc, @Fj.x_move, @Fj.w_ownV, @Fj.w_yes, @Fj.x_dkM, @Fj.x_dkT, @Fj.x_dkL, @Fj.x_dkPop, @Fj.x_dkApp, @Fj.x_dkSetM, @Fj.x_dkSetT⟩
theorem wp4 : type_of% @Fj.x_dkNew ∧ type_of% @Fj.w_E0 ∧ type_of% @Fj.w_E1 ∧ type_of% @Fj.w_par ∧ type_of% @Fj.w_puts0 ∧ type_of% @Fj.w_puts1 ∧ type_of% @Fj.w_ss ∧ type_of% @Fj.w_isi2 ∧ type_of% @Fj.w_zip ∧ type_of% @Fj.g_add ∧ type_of% @Fj.g_sub ∧ type_of% @Fj.g_addT ∧ type_of% @Fj.g_addL ∧ type_of% @Fj.g_addS ∧ type_of% @Fj.g_mul ∧ type_of% @Fj.g_div := ⟨@Fj.x_dkNew, @Fj.w_E0, @Fj.w_E1, @Fj.w_par, @Fj.w_puts0, @Fj.w_puts1, @Fj.w_ss, @Fj.w_isi2, @Fj.w_zip, @Fj.g_add, @Fj.g_sub, @Fj.g_addT, @Fj.g_addL, @Fj.g_addS, @Fj.g_mul, @Fj.g_div⟩
theorem wp5 : type_of% @Fj.g_mod ∧ type_of% @Fj.g_pow ∧ type_of% @Fj.g_lt ∧ type_of% @Fj.g_le ∧ type_of% @Fj.g_gt ∧ type_of% @Fj.g_ge ∧ type_of% @Fj.g_eq ∧ type_of% @Fj.g_ne ∧ type_of% @Fj.g_neNil ∧ type_of% @Fj.g_eqNil ∧ type_of% @Fj.g_eqS ∧ type_of% @Fj.g_neS ∧ type_of% @Fj.w_tups ∧ type_of% @Fj.mv_val ∧ type_of% @Fj.mv_own ∧ type_of% @Fj.g_sortI := ⟨@Fj.g_mod, @Fj.g_pow, @Fj.g_lt, @Fj.g_le, @Fj.g_gt, @Fj.g_ge, @Fj.g_eq, @Fj.g_ne, @Fj.g_neNil, @Fj.g_eqNil, @Fj.g_eqS, @Fj.g_neS, @Fj.w_tups, @Fj.mv_val, @Fj.mv_own, @Fj.g_sortI⟩
theorem wp6 : type_of% @Fj.zip2_L ∧ type_of% @Fj.zip2_T ∧ type_of% @Fj.int3_of ∧ type_of% @Fj.g_all ∧ type_of% @Fj.g_any ∧ type_of% @Fj.g_sum ∧ type_of% @Fj.g_bools0 ∧ type_of% @Fj.g_bools1 ∧ type_of% @Fj.g_ltT ∧ type_of% @Fj.g_ints0 ∧ type_of% @Fj.g_ints1 ∧ type_of% @Fj.g_intsM ∧ type_of% @Fj.g_slT ∧ type_of% @Fj.g_slL ∧ type_of% @Fj.g_isTrue ∧ type_of% @Fj.g_notTrue := ⟨@Fj.zip2_L, @Fj.zip2_T, @Fj.int3_of, @Fj.g_all, @Fj.g_any, @Fj.g_sum, @Fj.g_bools0, @Fj.g_bools1, @Fj.g_ltT, @Fj.g_ints0, @Fj.g_ints1, @Fj.g_intsM, @Fj.g_slT, @Fj.g_slL, @Fj.g_isTrue, @Fj.g_notTrue⟩
theorem wp7 : type_of% @Fj.g_isNone ∧ type_of% @Fj.g_notNone ∧ type_of% @Fj.g_lenL ∧ type_of% @Fj.g_lenT ∧ type_of% @Fj.g_int ∧ type_of% @Fj.g_max ∧ type_of% @Fj.g_min ∧ type_of% @Fj.g_list ∧ type_of% @Fj.g_listT ∧ type_of% @Fj.g_tupT ∧ type_of% @Fj.g_tupL ∧ type_of% @Fj.g_ixL ∧ type_of% @Fj.g_ixT ∧ type_of% @Fj.IfB_true ∧ type_of% @Fj.IfB_false ∧ type_of% @Fj.bool_of := ⟨@Fj.g_isNone, @Fj.g_notNone, @Fj.g_lenL, @Fj.g_lenT, @Fj.g_int, @Fj.g_max, @Fj.g_min, @Fj.g_list, @Fj.g_listT, @Fj.g_tupT, @Fj.g_tupL, @Fj.g_ixL, @Fj.g_ixT, @Fj.IfB_true, @Fj.IfB_false, @Fj.bool_of⟩
theorem wp8 : type_of% @Fj.val_of ∧ type_of% @Fj.scr_of ∧ type_of% @Fj.row_ofL ∧ type_of% @Fj.row_ofT ∧ type_of% @Fj.walk_ofL ∧ type_of% @Fj.walk_ofT ∧ type_of% @Fj.walk_ofS ∧ type_of% @Fj.own_of ∧ type_of% @Fj.lst_of ∧ type_of% @Fj.dk_of ∧ type_of% @Fj.out_of ∧ type_of% @Fj.list_of ∧ type_of% @Fj.int_of ∧ type_of% @Fj.int1_of ∧ type_of% @Fj.int2_of ∧ type_of% @Fj.list1_of := ⟨@Fj.val_of, @Fj.scr_of, @Fj.row_ofL, @Fj.row_ofT, @Fj.walk_ofL, @Fj.walk_ofT, @Fj.walk_ofS, @Fj.own_of, @Fj.lst_of, @Fj.dk_of, @Fj.out_of, @Fj.list_of, @Fj.int_of, @Fj.int1_of, @Fj.int2_of, @Fj.list1_of⟩
theorem wp9 : type_of% @Fj.kt_NoneType_int ∧ type_of% @Fj.kt_NoneType_bool ∧ type_of% @Fj.kt_NoneType_str ∧ type_of% @Fj.kt_NoneType_list ∧ type_of% @Fj.kt_NoneType_tuple ∧ type_of% @Fj.kt_NoneType_dict ∧ type_of% @Fj.kt_bool_int ∧ type_of% @Fj.kt_bool_bool ∧ type_of% @Fj.kt_bool_str ∧ type_of% @Fj.kt_bool_list ∧ type_of% @Fj.kt_bool_tuple ∧ type_of% @Fj.kt_bool_dict ∧ type_of% @Fj.kt_int_int ∧ type_of% @Fj.kt_int_bool ∧ type_of% @Fj.kt_int_str ∧ type_of% @Fj.kt_int_list := ⟨@Fj.kt_NoneType_int, @Fj.kt_NoneType_bool, @Fj.kt_NoneType_str, @Fj.kt_NoneType_list, @Fj.kt_NoneType_tuple, @Fj.kt_NoneType_dict, @Fj.kt_bool_int, @Fj.kt_bool_bool, @Fj.kt_bool_str, @Fj.kt_bool_list, @Fj.kt_bool_tuple, @Fj.kt_bool_dict, @Fj.kt_int_int, @Fj.kt_int_bool, @Fj.kt_int_str, @Fj.kt_int_list⟩
theorem wp10 : type_of% @Fj.kt_int_tuple ∧ type_of% @Fj.kt_int_dict ∧ type_of% @Fj.kt_str_int ∧ type_of% @Fj.kt_str_bool ∧ type_of% @Fj.kt_str_str ∧ type_of% @Fj.kt_str_list ∧ type_of% @Fj.kt_str_tuple ∧ type_of% @Fj.kt_str_dict ∧ type_of% @Fj.kt_list_int ∧ type_of% @Fj.kt_list_bool ∧ type_of% @Fj.kt_list_str ∧ type_of% @Fj.kt_list_list ∧ type_of% @Fj.kt_list_tuple ∧ type_of% @Fj.kt_list_dict ∧ type_of% @Fj.kt_tuple_int ∧ type_of% @Fj.kt_tuple_bool := ⟨@Fj.kt_int_tuple, @Fj.kt_int_dict, @Fj.kt_str_int, @Fj.kt_str_bool, @Fj.kt_str_str, @Fj.kt_str_list, @Fj.kt_str_tuple, @Fj.kt_str_dict, @Fj.kt_list_int, @Fj.kt_list_bool, @Fj.kt_list_str, @Fj.kt_list_list, @Fj.kt_list_tuple, @Fj.kt_list_dict, @Fj.kt_tuple_int, @Fj.kt_tuple_bool⟩
theorem wp11 : type_of% @Fj.kt_tuple_str ∧ type_of% @Fj.kt_tuple_list ∧ type_of% @Fj.kt_tuple_tuple ∧ type_of% @Fj.kt_tuple_dict ∧ type_of% @Fj.kt_dict_int ∧ type_of% @Fj.kt_dict_bool ∧ type_of% @Fj.kt_dict_str ∧ type_of% @Fj.kt_dict_list ∧ type_of% @Fj.kt_dict_tuple ∧ type_of% @Fj.kt_dict_dict ∧ type_of% @Fj.cT_1 ∧ type_of% @Fj.cD_1 ∧ type_of% @Fj.cT_2 ∧ type_of% @Fj.cD_2 ∧ type_of% @Fj.cT_3 ∧ type_of% @Fj.cD_3 := ⟨@Fj.kt_tuple_str, @Fj.kt_tuple_list, @Fj.kt_tuple_tuple, @Fj.kt_tuple_dict, @Fj.kt_dict_int, @Fj.kt_dict_bool, @Fj.kt_dict_str, @Fj.kt_dict_list, @Fj.kt_dict_tuple, @Fj.kt_dict_dict, @Fj.cT_1, @Fj.cD_1, @Fj.cT_2, @Fj.cD_2, @Fj.cT_3, @Fj.cD_3⟩
theorem wp12 : type_of% @Fj.cT_4 ∧ type_of% @Fj.cD_4 ∧ type_of% @Fj.cT_5 ∧ type_of% @Fj.cD_5 ∧ type_of% @Fj.cT_6 ∧ type_of% @Fj.cD_6 ∧ type_of% @Fj.cT_7 ∧ type_of% @Fj.cD_7 ∧ type_of% @Fj.at_0 ∧ type_of% @Fj.at_1 ∧ type_of% @Fj.at_2 ∧ type_of% @Fj.at_3 ∧ type_of% @Fj.at_4 ∧ type_of% @Fj.at_5 ∧ type_of% @Fj.at_6 ∧ type_of% @Fj.at_7 := ⟨@Fj.cT_4, @Fj.cD_4, @Fj.cT_5, @Fj.cD_5, @Fj.cT_6, @Fj.cD_6, @Fj.cT_7, @Fj.cD_7, @Fj.at_0, @Fj.at_1, @Fj.at_2, @Fj.at_3, @Fj.at_4, @Fj.at_5, @Fj.at_6, @Fj.at_7⟩
theorem wp13 : type_of% @Fj.at_8 ∧ type_of% @Fj.at_9 ∧ type_of% @Fj.nc_0 ∧ type_of% @Fj.nc_1 ∧ type_of% @Fj.nc_2 ∧ type_of% @Fj.nc_3 ∧ type_of% @Fj.nc_4 ∧ type_of% @Fj.nc_5 ∧ type_of% @Fj.nc_6 ∧ type_of% @Fj.nc_7 ∧ type_of% @Fj.nc_8 ∧ type_of% @Fj.nc_9 ∧ type_of% @Fj.nc_10 ∧ type_of% @Fj.nc_11 ∧ type_of% @Fj.nc_12 ∧ type_of% @Fj.nc_13 := ⟨@Fj.at_8, @Fj.at_9, @Fj.nc_0, @Fj.nc_1, @Fj.nc_2, @Fj.nc_3, @Fj.nc_4, @Fj.nc_5, @Fj.nc_6, @Fj.nc_7, @Fj.nc_8, @Fj.nc_9, @Fj.nc_10, @Fj.nc_11, @Fj.nc_12, @Fj.nc_13⟩
theorem wp14 : type_of% @Fj.nc_14 ∧ type_of% @Fj.nc_15 ∧ type_of% @Fj.nc_16 ∧ type_of% @Fj.nc_17 ∧ type_of% @Fj.nc_18 ∧ type_of% @Fj.nc_19 ∧ type_of% @Fj.nc_20 ∧ type_of% @Fj.eb_no ∧ type_of% @Fj.ev_no ∧ type_of% @Fj.ed_no ∧ type_of% @Fj.ef_no ∧ type_of% @Fj.em_no ∧ type_of% @Fj.ek_no ∧ type_of% @Fj.eo_no ∧ type_of% @Fj.eb_val ∧ type_of% @Fj.ev_val := ⟨@Fj.nc_14, @Fj.nc_15, @Fj.nc_16, @Fj.nc_17, @Fj.nc_18, @Fj.nc_19, @Fj.nc_20, @Fj.eb_no, @Fj.ev_no, @Fj.ed_no, @Fj.ef_no, @Fj.em_no, @Fj.ek_no, @Fj.eo_no, @Fj.eb_val, @Fj.ev_val⟩
theorem wp15 : type_of% @Fj.ed_val ∧ type_of% @Fj.ef_val ∧ type_of% @Fj.em_val ∧ type_of% @Fj.ek_val ∧ type_of% @Fj.eo_val ∧ type_of% @Fj.eb_lst ∧ type_of% @Fj.ev_lst ∧ type_of% @Fj.ed_lst ∧ type_of% @Fj.ef_lst ∧ type_of% @Fj.em_lst ∧ type_of% @Fj.ek_lst ∧ type_of% @Fj.eb_dk ∧ type_of% @Fj.ev_dk ∧ type_of% @Fj.ed_dk ∧ type_of% @Fj.ef_dk ∧ type_of% @Fj.eb_scr := ⟨@Fj.ed_val, @Fj.ef_val, @Fj.em_val, @Fj.ek_val, @Fj.eo_val, @Fj.eb_lst, @Fj.ev_lst, @Fj.ed_lst, @Fj.ef_lst, @Fj.em_lst, @Fj.ek_lst, @Fj.eb_dk, @Fj.ev_dk, @Fj.ed_dk, @Fj.ef_dk, @Fj.eb_scr⟩
theorem wp16 : type_of% @Fj.ev_scr ∧ type_of% @Fj.ed_scr ∧ type_of% @Fj.ef_scr ∧ type_of% @Fj.em_scr ∧ type_of% @Fj.ek_scr ∧ type_of% @Fj.eo_scr ∧ type_of% @Fj.eb_lent ∧ type_of% @Fj.ev_lent ∧ type_of% @Fj.ed_lent ∧ type_of% @Fj.ef_lent ∧ type_of% @Fj.em_lent ∧ type_of% @Fj.ek_lent ∧ type_of% @Fj.eo_lent ∧ type_of% @Fj.em_dk ∧ type_of% @Fj.eo_own ∧ type_of% @Fj.er_val := ⟨@Fj.ev_scr, @Fj.ed_scr, @Fj.ef_scr, @Fj.em_scr, @Fj.ek_scr, @Fj.eo_scr, @Fj.eb_lent, @Fj.ev_lent, @Fj.ed_lent, @Fj.ef_lent, @Fj.em_lent, @Fj.ek_lent, @Fj.eo_lent, @Fj.em_dk, @Fj.eo_own, @Fj.er_val⟩
theorem wp17 : type_of% @Fj.er_own ∧ type_of% @Fj.ez_val ∧ type_of% @Fj.ez_own ∧ type_of% @Fj.en_val ∧ type_of% @Fj.en_own ∧ type_of% @Fj.bq_tt ∧ type_of% @Fj.bq_tf ∧ type_of% @Fj.bq_ft ∧ type_of% @Fj.bq_ff ∧ type_of% @Bool.or_self ∧ type_of% @Bool.or_true ∧ type_of% @Bool.true_or ∧ type_of% @Bool.or_false ∧ type_of% @Bool.false_or ∧ type_of% @Bool.not_false ∧ type_of% @decide_true := ⟨@Fj.er_own, @Fj.ez_val, @Fj.ez_own, @Fj.en_val, @Fj.en_own, @Fj.bq_tt, @Fj.bq_tf, @Fj.bq_ft, @Fj.bq_ff, @Bool.or_self, @Bool.or_true, @Bool.true_or, @Bool.or_false, @Bool.false_or, @Bool.not_false, @decide_true⟩
theorem wp18 : type_of% @decide_false ∧ type_of% @List.isEmpty_nil.{0} ∧ type_of% @List.isEmpty_cons.{0} ∧ type_of% @Fj.shaped_nil ∧ type_of% @W_some ∧ type_of% @W_none ∧ type_of% @W1_some ∧ type_of% @W1_none ∧ type_of% @nxt_nx ∧ type_of% @nxt_rt ∧ type_of% @nxt_bk ∧ type_of% @nxt_ct ∧ type_of% @endF_rt ∧ type_of% @endF_nx ∧ type_of% @Fj.pin_no ∧ type_of% @Fj.pin_val := ⟨@decide_false, @List.isEmpty_nil.{0}, @List.isEmpty_cons.{0}, @Fj.shaped_nil, @W_some, @W_none, @W1_some, @W1_none, @nxt_nx, @nxt_rt, @nxt_bk, @nxt_ct, @endF_rt, @endF_nx, @Fj.pin_no, @Fj.pin_val⟩
theorem wp19 : type_of% @Fj.pin_t ∧ type_of% @Fj.pin_f ∧ type_of% @Fj.pin_lent ∧ type_of% @Fj.pin_scr ∧ type_of% @List.getElem?_cons_zero.{0} ∧ type_of% @List.getElem?_cons_succ.{0} ∧ type_of% @List.getElem?_nil.{0} ∧ type_of% @List.set_cons_zero.{0} ∧ type_of% @List.set_cons_succ.{0} ∧ type_of% @List.length_cons.{0} ∧ type_of% @List.length_nil.{0} ∧ type_of% @List.map_cons.{0,0} ∧ type_of% @List.map_nil.{0,0} ∧ type_of% @List.cons_append.{0} ∧ type_of% @List.nil_append.{0} ∧ type_of% @List.append_nil.{0} := ⟨@Fj.pin_t, @Fj.pin_f, @Fj.pin_lent, @Fj.pin_scr, @List.getElem?_cons_zero.{0}, @List.getElem?_cons_succ.{0}, @List.getElem?_nil.{0}, @List.set_cons_zero.{0}, @List.set_cons_succ.{0}, @List.length_cons.{0}, @List.length_nil.{0}, @List.map_cons.{0,0}, @List.map_nil.{0,0}, @List.cons_append.{0}, @List.nil_append.{0}, @List.append_nil.{0}⟩
theorem wp20 : type_of% @List.replicate_succ.{0} ∧ type_of% @List.replicate_zero.{0} ∧ type_of% @List.filterMap_cons.{0,0} ∧ type_of% @List.filterMap_nil.{0,0} ∧ type_of% @List.all_cons.{0} ∧ type_of% @List.all_nil.{0} ∧ type_of% @Nat.zero_add ∧ type_of% @Nat.add_zero ∧ type_of% @Nat.sub_self ∧ type_of% @Bool.not_true ∧ type_of% @Bool.not_false ∧ type_of% @Bool.and_true ∧ type_of% @Bool.true_and ∧ type_of% @Bool.and_self ∧ type_of% @and_true ∧ type_of% @true_and := ⟨@List.replicate_succ.{0}, @List.replicate_zero.{0}, @List.filterMap_cons.{0,0}, @List.filterMap_nil.{0,0}, @List.all_cons.{0}, @List.all_nil.{0}, @Nat.zero_add, @Nat.add_zero, @Nat.sub_self, @Bool.not_true, @Bool.not_false, @Bool.and_true, @Bool.true_and, @Bool.and_self, @and_true, @true_and⟩
theorem wp21 : type_of% @false_implies ∧ type_of% @true_implies ∧ type_of% @Bool.false_eq_true ∧ type_of% @Option.some.injEq.{0} := ⟨@false_implies, @true_implies, @Bool.false_eq_true, @Option.some.injEq.{0}⟩
end Fj
namespace Fj
theorem Pl.all {e : Ent} (h : Pl e) : borS e = e ∧ (∀ fr, dkFit fr e = true) ∧ isDk e = false ∧ (∀ x, merS e x = e) ∧ pinE e = false ∧ valS e = e := ⟨h.bor, fun _ => h.fit, h.dk, fun _ => h.mer, h.pin, h.vs⟩
end Fj

set_option Elab.async false
set_option linter.all false
set_option maxRecDepth 100000
set_option maxHeartbeats 4000000
set_option autoImplicit false
/-! Rules of the later constructs. -/
namespace Fj
open PySem PySem.Spec PyProof.Rows L2
def revOf : PyData → Option Ent
  | .list ds => some (.own true (.lst ds.reverse))
  | .tuple ds => some (.val (.tuple ds.reverse))
  | _ => none
theorem rev_ofL {ds : List PyData} : revOf (.list ds) = some (.own true (.lst ds.reverse)) := rfl
theorem rev_ofT {ds : List PyData} : revOf (.tuple ds) = some (.val (.tuple ds.reverse)) := rfl
def tupOf : PyData → Option (List PyData)
  | .tuple ds => some ds
  | _ => none
theorem tup_of {ds : List PyData} : tupOf (.tuple ds) = some ds := rfl
section
variable {ρ : En} {Q : PyData → En → Prop} {S : Ent → En → Prop}
theorem w_rev2 {m : MV} : W (mRev2 m ρ) S = W (m ρ) fun d ρ => W1 (revOf d) fun e => S e ρ := by
  unfold mRev2
  cases m ρ with
  | none => rfl
  | some p =>
    obtain ⟨d, ρ⟩ := p
    cases d <;> rfl
theorem w_lr {m : MV} : W (mLR m ρ) S = W (m ρ) fun d ρ => W1 (intOf d) fun n => (-(2 ^ 62) ≤ n ∧ n < 2 ^ 62) ∧ n.toNat ≤ 100000 ∧ S (.own true (.lst (rngD 0 n.toNat))) ρ := by
  unfold mLR
  cases m ρ with
  | none => rfl
  | some p =>
    obtain ⟨d, ρ⟩ := p
    cases d with
    | int n =>
      show W (if R1ok n then if n.toNat ≤ 100000 then some (.own true (.lst (rngD 0 n.toNat)), ρ) else none else none) S = (R1ok n ∧ n.toNat ≤ 100000 ∧ S (.own true (.lst (rngD 0 n.toNat))) ρ)
      by_cases h : R1ok n
      · rw [if_pos h]
        by_cases g : n.toNat ≤ 100000
        · rw [if_pos g]
          exact propext ⟨fun z => ⟨h, g, z⟩, fun z => z.2.2⟩
        · rw [if_neg g]
          exact propext ⟨fun z => z.elim, fun z => absurd z.2.1 g⟩
      · rw [if_neg h]
        exact propext ⟨fun z => z.elim, fun z => absurd z.1 h⟩
    | _ => rfl
def seqOf : List PyData → Option (List PyData)
  | [.list ds] => some ds
  | [.tuple ds] => some ds
  | _ => none
theorem seq_ofL {ds : List PyData} : seqOf [.list ds] = some ds := rfl
theorem seq_ofT {ds : List PyData} : seqOf [.tuple ds] = some ds := rfl
theorem x_enum2 {n : MA} {S : List PyData → En → Prop} : W (mEnum2 n ρ) S = W (n ρ) fun ds ρ => W1 (seqOf ds) fun xs => S (enumD 0 xs) ρ := by
  unfold mEnum2
  cases n ρ with
  | none => rfl
  | some p =>
    obtain ⟨ds, ρ⟩ := p
    rcases ds with _ | ⟨d, _ | ⟨d', r⟩⟩
    · rfl
    · cases d <;> rfl
    · cases d <;> rfl
theorem w_ssi {m : MV} : W (mSSI m ρ) S = W (m ρ) fun d ρ => W1 (tupOf d) fun ds => W1 (intsD ds) fun ns => ns.length < 64 ∧ S (.own true (.lst ((isort (fun i j => decide (i < j)) (dedup ns)).map .int))) ρ := by
  unfold mSSI
  cases m ρ with
  | none => rfl
  | some p =>
    obtain ⟨d, ρ⟩ := p
    cases d with
    | tuple ds =>
      simp only [W_some, tupOf, W1_some]
      cases intsD ds with
      | none => rfl
      | some ns =>
        simp only [W1_some]
        by_cases h : ns.length < 64
        · rw [if_pos h]
          exact propext ⟨fun z => ⟨h, z⟩, fun z => z.2⟩
        · rw [if_neg h]
          exact propext ⟨fun z => z.elim, fun z => absurd z.1 h⟩
    | _ => rfl
def isLst (e : Ent) : Bool := match e with
  | .own _ (.lst _) => true
  | _ => false
theorem w_popAt {j : Nat} {m : MV} : W (mPopAt j m ρ) Q = W1 ρ[j]? fun e => W1 (lstOf e) fun _ => W (m ρ) fun d ρ => W1 (intOf d) fun i => W1 ρ[j]? fun e => W1 (lstOf e) fun q => W1 (L2.ixN q.2.length i) fun k => W1 q.2[k]? fun d => q.2.length ≤ 100000 ∧ Q d (ρ.set j (.own q.1 (.lst (q.2.eraseIdx k)))) := by
  unfold mPopAt
  cases ρ[j]? with
  | none => rfl
  | some e =>
    cases e with
    | own fr ce =>
      cases ce with
      | lst ds =>
        simp only [W1_some, lstOf]
        cases m ρ with
        | none => rfl
        | some p =>
          obtain ⟨d, ρ⟩ := p
          cases d with
          | int i =>
            simp only [W_some, intOf, W1_some]
            cases ρ[j]? with
            | none => rfl
            | some e =>
              cases e with
              | own fr ce =>
                cases ce with
                | lst ds =>
                  simp only [W1_some]
                  cases L2.ixN ds.length i with
                  | none => rfl
                  | some k =>
                    simp only [W1_some]
                    cases ds[k]? with
                    | none => rfl
                    | some d =>
                      simp only [W1_some]
                      by_cases h : ds.length ≤ 100000
                      · rw [if_pos h]
                        exact propext ⟨fun z => ⟨h, z⟩, fun z => z.2⟩
                      · rw [if_neg h]
                        exact propext ⟨fun z => z.elim, fun z => absurd z.1 h⟩
                | _ => rfl
              | _ => rfl
          | _ => rfl
      | _ => rfl
    | _ => rfl
end
theorem g_strI {i : Int} {S : Ent → Prop} : W1 (gStrI [.int i]) S = (i.natAbs.log2 < 1920 ∧ S (.val (.str (toString i : String)))) := by
  unfold gStrI
  exact W1_if
theorem g_eqNn {ds : List PyData} {Q : PyData → Prop} : W1 (gEqN (.list ds) (.list [])) Q = Q (.bool ds.isEmpty) := rfl
theorem g_neNn {ds : List PyData} {Q : PyData → Prop} : W1 (gNeN (.list ds) (.list [])) Q = Q (.bool (!ds.isEmpty)) := rfl
theorem ixN_nat {n k : Nat} (h : k < n) : L2.ixN n (k : Int) = some k := by
  unfold L2.ixN
  rw [if_pos (Int.natCast_nonneg k), if_pos (by omega)]
  rfl
theorem g_mulLL {xs : List PyData} {k : Int} {Q : PyData → Prop} : W1 (gMul (.list xs) (.int k)) Q = ((-1000000 ≤ k ∧ k ≤ 100000 ∧ xs.length * k.toNat ≤ 100000) ∧ Q (.list (repD k.toNat xs))) := by
  unfold gMul gMulI gI gMulL
  simp only [Option.none_or]
  exact W1_if
theorem g_mulTT {xs : List PyData} {k : Int} {Q : PyData → Prop} : W1 (gMul (.tuple xs) (.int k)) Q = ((2 ≤ k ∧ k ≤ 1000 ∧ xs.length ≤ 1000 ∧ 1 ≤ xs.length) ∧ Q (.tuple (repD k.toNat xs))) := by
  unfold gMul gMulI gI gMulL
  simp only [Option.none_or]
  exact W1_if
theorem g_isFalse {b : Bool} {Q : PyData → Prop} : W1 (gIs (.bool b) (.bool false)) Q = Q (.bool (!b)) := by
  cases b <;> rfl
theorem g_intB {b : Bool} {S : Ent → Prop} : W1 (gInt [.bool b]) S = S (.val (.int (if b = true then 1 else 0))) := rfl
theorem wpz : type_of% @Fj.w_rev2 ∧ type_of% @Fj.w_lr ∧ type_of% @Fj.w_ssi ∧ type_of% @Fj.w_popAt ∧ type_of% @Fj.g_strI ∧ type_of% @Fj.g_eqNn ∧ type_of% @Fj.g_neNn ∧ type_of% @Fj.rev_ofL ∧ type_of% @Fj.rev_ofT ∧ type_of% @Fj.tup_of ∧ type_of% @Fj.g_mulLL ∧ type_of% @Fj.g_mulTT ∧ type_of% @Fj.x_enum2 ∧ type_of% @Fj.seq_ofL ∧ type_of% @Fj.seq_ofT ∧ type_of% @Fj.g_isFalse ∧ type_of% @Fj.g_intB := ⟨@Fj.w_rev2, @Fj.w_lr, @Fj.w_ssi, @Fj.w_popAt, @Fj.g_strI, @Fj.g_eqNn, @Fj.g_neNn, @Fj.rev_ofL, @Fj.rev_ofT, @Fj.tup_of, @Fj.g_mulLL, @Fj.g_mulTT, @Fj.x_enum2, @Fj.seq_ofL, @Fj.seq_ofT, @Fj.g_isFalse, @Fj.g_intB⟩

theorem w_lcFilD {g : MG} {t : MT} {m : MV} {vs : List Nat} {Q : List PyData → En → Prop} {ρ : En} (p : PyData → Bool) (f : PyData → PyData) {xs : List PyData}
    (h : ∀ x ∈ xs, W1 (g x ρ) fun ρ1 => W (t ρ1) fun b ρ2 => b = p x ∧ (b = true → W (m ρ2) fun y ρ3 => y = f x ∧ vs.all (freeE ρ3) = true ∧ wipeE ρ3 vs = ρ) ∧ (b = false → vs.all (freeE ρ2) = true ∧ wipeE ρ2 vs = ρ)) (hl : xs.length ≤ 100000) (q : Q ((xs.filter p).map f) ρ) : W (lcL g t m vs xs [] ρ) Q := by
  have := w_lcFil (g := g) (t := t) (m := m) (vs := vs) (Q := Q) (ρ := ρ) id p f (xs := xs) h hl q
  rwa [List.map_id] at this
theorem w_lcMapD {g : MG} {t : MT} {m : MV} {vs : List Nat} {Q : List PyData → En → Prop} {ρ : En} (f : PyData → PyData) {xs : List PyData}
    (h : ∀ x ∈ xs, W1 (g x ρ) fun ρ1 => W (t ρ1) fun b ρ2 => b = true ∧ W (m ρ2) fun y ρ3 => y = f x ∧ vs.all (freeE ρ3) = true ∧ wipeE ρ3 vs = ρ) (hl : xs.length ≤ 100000) (q : Q (xs.map f) ρ) : W (lcL g t m vs xs [] ρ) Q := by
  have := w_lcMap (g := g) (t := t) (m := m) (vs := vs) (Q := Q) (ρ := ρ) id f (xs := xs) h hl q
  rwa [List.map_id] at this
/-- a comprehension over data: what each is mapped to stands in a relation -/
theorem layInts : ∀ ns : List Int, PyData.canLayAll0 (ns.map .int) = true ∧ PyData.depthAll (ns.map .int) = 0
  | [] => ⟨by simp [PyData.canLayAll0], by simp [PyData.depthAll]⟩
  | n :: ns => by
    obtain ⟨h1, h2⟩ := layInts ns
    rw [List.map_cons]
    exact ⟨by unfold PyData.canLayAll0; rw [h1]; simp [PyData.canLay0], by unfold PyData.depthAll; rw [h2]; simp [PyData.depth]⟩
theorem shaped_intsL (ns : List Int) : SeqAt.shaped (.list (ns.map .int)) = true := by
  obtain ⟨h1, h2⟩ := layInts ns
  unfold SeqAt.shaped PyData.canLay0 PyData.depth
  rw [h1, h2]
  decide
theorem shaped_intsT (ns : List Int) : SeqAt.shaped (.tuple (ns.map .int)) = true := by
  obtain ⟨h1, h2⟩ := layInts ns
  unfold SeqAt.shaped PyData.canLay0 PyData.depth
  rw [h1, h2]
  decide
theorem ints_inj {as bs : List Int} : as.map PyData.int = bs.map PyData.int ↔ as = bs :=
  ⟨fun h => by
    induction as generalizing bs with
    | nil => cases bs with
      | nil => rfl
      | cons b bs => cases h
    | cons a as ih => cases bs with
      | nil => cases h
      | cons b bs =>
        rw [List.map_cons, List.map_cons] at h
        injection h with h1 h2
        injection h1 with h1
        rw [h1, ih h2], fun h => h ▸ rfl⟩
theorem g_neLI {as bs : List Int} {Q : PyData → Prop} : W1 (gNe (.list (as.map .int)) (.list (bs.map .int))) Q = Q (.bool (!decide (as = bs))) := by
  unfold gNe gNeS gNeD
  simp only [Option.none_or]
  rw [shaped_intsL, shaped_intsL]
  simp only [Bool.and_self, if_true, W1_some]
  have e : PyData.eqv (.list (as.map .int)) (.list (bs.map .int)) = decide (as = bs) := by
    rw [Bool.eq_iff_iff, decide_eq_true_iff, ← ints_inj]
    have := eqvAll_iff _ _ (simAll_ints as) (simAll_ints bs)
    simpa [PyData.eqv] using this
  rw [e]
/-! numbers that rise -/
def rise (ns : List Int) : Bool := (ns.zip (ns.drop 1)).all fun p => decide (p.1 < p.2)
theorem rise_cons2 {a b : Int} {ns : List Int} : rise (a :: b :: ns) = (decide (a < b) && rise (b :: ns)) := rfl
theorem rise_iff : ∀ {ns : List Int}, rise ns = true ↔ ns.Pairwise (fun a b => a < b)
  | [] => by simp [rise]
  | [a] => by simp [rise]
  | a :: b :: ns => by
    rw [rise_cons2, Bool.and_eq_true, decide_eq_true_iff, rise_iff, List.pairwise_cons (a := a)]
    refine ⟨fun ⟨h1, h2⟩ => ⟨fun c hc => ?_, h2⟩, fun ⟨h1, h2⟩ => ⟨h1 b (List.mem_cons_self ..), h2⟩⟩
    rcases List.mem_cons.mp hc with e | e
    · rw [e]; exact h1
    · have := List.rel_of_pairwise_cons h2 e
      omega
theorem ord_rise (ns : List Int) : (isort (fun i j => decide (i < j)) (dedup ns)).Pairwise (fun a b => a < b) := by
  have nd2 : (isort (fun i j : Int => decide (i < j)) (dedup ns)).Nodup := (isort_perm _ _).nodup_iff.mpr (nodup_dedup _)
  exact ((isort_sorted ord_int _).and nd2).imp fun {a b} ⟨h1, h2⟩ => by
    have := of_decide_eq_false h1
    omega
theorem rise_ssi {ns : List Int} : isort (fun i j => decide (i < j)) (dedup ns) = ns ↔ rise ns = true := by
  rw [rise_iff]
  refine ⟨fun h => h ▸ ord_rise ns, fun h => ?_⟩
  have nd : ns.Nodup := h.imp fun {a b} z => by omega
  refine uniq_sorted (r := fun a b : Int => a ≤ b) (fun a b h1 h2 => Int.le_antisymm h1 h2) ?_ ((ord_rise ns).imp fun {a b} z => by omega) (h.imp fun {a b} z => by omega)
  refine (isort_perm _ _).trans ?_
  refine (List.perm_ext_iff_of_nodup (nodup_dedup _) nd).mpr fun x => mem_dedup
theorem zip_pairs (as bs : List Int) : zipD (as.map .int) (bs.map .int) = (as.zip bs).map fun p => .tuple [.int p.1, .int p.2] := by
  unfold zipD
  rw [List.zip_map, List.map_map]
  rfl
theorem zip_next (ns : List Int) : zipD (ns.map .int) (cutD (ns.map .int) (some 1) none) = (ns.zip (ns.drop 1)).map fun p => .tuple [.int p.1, .int p.2] := by
  rw [cut_1, ← List.map_drop, zip_pairs]

theorem any_ints {ns : List Int} {i : Int} : ((ns.map PyData.int).any fun z => PyData.eqv z (.int i)) = decide (i ∈ ns) := by
  rw [Bool.eq_iff_iff, decide_eq_true_iff, List.any_map, List.any_eq_true]
  refine ⟨fun ⟨j, hj, e⟩ => ?_, fun h => ⟨i, h, ?_⟩⟩
  · have e : PyData.eqv (.int j) (.int i) = true := e
    have : j = i := by simpa [PyData.eqv] using e
    exact this ▸ hj
  · show PyData.eqv (.int i) (.int i) = true
    simp [PyData.eqv]
theorem shaped_intX {i : Int} : SeqAt.shaped (.int i) = true := by
  unfold SeqAt.shaped
  simp [PyData.canLay0, PyData.depth]
theorem g_inI {ns : List Int} {i : Int} {Q : PyData → Prop} : W1 (gIn (.int i) (.tuple (ns.map .int))) Q = Q (.bool (decide (i ∈ ns))) := by
  unfold gIn gInD
  simp only [shaped_intsT, shaped_intX, Bool.and_self, if_true, any_ints]
  rfl
theorem g_ninI {ns : List Int} {i : Int} {Q : PyData → Prop} : W1 (gNotInD (.int i) (.tuple (ns.map .int))) Q = Q (.bool (!decide (i ∈ ns))) := by
  unfold gNotInD
  simp only [shaped_intsT, shaped_intX, Bool.and_self, if_true, any_ints]
  rfl
end Fj

set_option Elab.async false
set_option linter.all false
set_option maxRecDepth 100000
set_option maxHeartbeats 4000000
set_option autoImplicit false
/-! dicts as data: d[k], k in d, dict(pairs), list(d). -/
namespace Fj
open PySem PySem.Spec PyProof.Rows L2
def keyOf : PyData → Option Key
  | .int i => some (.inl i)
  | .str x => some (.inr x)
  | _ => none
theorem keyOf_keyD (k : Key) : keyOf (keyD k) = some k := by cases k <;> rfl
theorem keyOf_eq {d : PyData} {k : Key} (h : keyOf d = some k) : d = keyD k := by
  cases d with
  | int i => cases h; rfl
  | str x => cases h; rfl
  | _ => cases h
/-- what a dict holds at a key -/
def lkD : List (PyData × PyData) → Key → Option PyData
  | [], _ => none
  | (a, d) :: r, k => if keyOf a = some k then some d else lkD r k
/-- in its place, or at the end -/
def putD : List (PyData × PyData) → Key → PyData → List (PyData × PyData)
  | [], k, d => [(keyD k, d)]
  | (a, x) :: r, k, d => if keyOf a = some k then (a, d) :: r.map (fun p => if keyOf p.1 = some k then (p.1, d) else p) else (a, x) :: putD r k d
def mergeD (acc : List (PyData × PyData)) (more : List (Key × PyData)) : List (PyData × PyData) := more.foldl (fun acc p => putD acc p.1 p.2) acc
section
variable {K : PySem.W.Frag} {F F' : Hp} {v : V} {d : PyData} {vs : List (Key × V)} {kvs : List (PyData × PyData)}
theorem Rp.key {k : Key} (h : Rp K F v (keyD k)) : v = kV k := by
  cases k with
  | inl i => cases h; rfl
  | inr x => cases h; rfl
theorem Rpk.length (h : Rpk K F vs kvs) : vs.length = kvs.length := by
  induction kvs generalizing vs with
  | nil => cases h; rfl
  | cons p r ih =>
    cases h with
    | int h t => exact congrArg Nat.succ (ih t)
    | str h t => exact congrArg Nat.succ (ih t)
theorem Rpk.look (h : Rpk K F vs kvs) (k : Key) : match lkD kvs k with
    | none => valV vs k = none
    | some d => ∃ v, valV vs k = some v ∧ Rp K F v d := by
  induction kvs generalizing vs with
  | nil => cases h; rfl
  | cons p r ih =>
    have both : ∀ {κ : Key} {v : V} {d : PyData} {vs : List (Key × V)}, keyOf p.1 = some κ → p = (p.1, d) → Rp K F v d → Rpk K F vs r → match lkD (p :: r) k with
        | none => valV ((κ, v) :: vs) k = none
        | some d => ∃ w, valV ((κ, v) :: vs) k = some w ∧ Rp K F w d := by
      intro κ v d vs hk he rv t
      obtain ⟨a, d0⟩ := p
      cases he
      show match (if keyOf a = some k then some d else lkD r k) with
        | none => valV ((κ, v) :: vs) k = none
        | some d => ∃ w, valV ((κ, v) :: vs) k = some w ∧ Rp K F w d
      have hk : keyOf a = some κ := hk
      by_cases e : κ = k
      · rw [if_pos (by rw [hk, e])]
        exact ⟨v, valV_pos (p := (κ, v)) e, rv⟩
      · rw [if_neg (by rw [hk]; exact fun z => e (Option.some.inj z))]
        rw [valV_neg (p := (κ, v)) e]
        exact ih t
    cases h with
    | int h t => exact both rfl rfl h t
    | str h t => exact both rfl rfl h t
theorem Rpk.repl (h : Rpk K F vs kvs) (k : Key) (r : Rp K F v d) : Rpk K F (vs.map fun kv => if kv.1 = k then (kv.1, v) else kv) (kvs.map fun p => if keyOf p.1 = some k then (p.1, d) else p) := by
  induction kvs generalizing vs with
  | nil => cases h; exact .nil
  | cons p rr ih =>
    cases h with
    | @int i v' d' vs _ h t =>
      rw [List.map_cons, List.map_cons]
      by_cases e : (Sum.inl i : Key) = k
      · rw [if_pos e, if_pos (show keyOf (.int i) = some k by rw [← e]; rfl)]
        exact .int r (ih t)
      · rw [if_neg e, if_neg (show ¬ keyOf (.int i) = some k from fun z => e (Option.some.inj z))]
        exact .int h (ih t)
    | @str x v' d' vs _ h t =>
      rw [List.map_cons, List.map_cons]
      by_cases e : (Sum.inr x : Key) = k
      · rw [if_pos e, if_pos (show keyOf (.str x) = some k by rw [← e]; rfl)]
        exact .str r (ih t)
      · rw [if_neg e, if_neg (show ¬ keyOf (.str x) = some k from fun z => e (Option.some.inj z))]
        exact .str h (ih t)
theorem putK_pos {κ : Type} [DecidableEq κ] {p : κ × V} {r : List (κ × V)} {k : κ} {v : V} (e : p.1 = k) : putK (p :: r) k v = (p.1, v) :: r.map (fun kv => if kv.1 = k then (kv.1, v) else kv) := by
  unfold putK
  rw [if_pos (by rw [List.any_cons, decide_eq_true e]; rfl), List.map_cons, if_pos e]
theorem putK_neg {κ : Type} [DecidableEq κ] {p : κ × V} {r : List (κ × V)} {k : κ} {v : V} (e : ¬ p.1 = k) : putK (p :: r) k v = p :: putK r k v := by
  unfold putK
  rw [List.any_cons, decide_eq_false e, Bool.false_or]
  by_cases h : (r.any fun kv => decide (kv.1 = k)) = true
  · rw [if_pos h, if_pos h, List.map_cons, if_neg e]
  · rw [if_neg h, if_neg h]
    rfl
theorem Rpk.put (h : Rpk K F vs kvs) (k : Key) (r : Rp K F v d) : Rpk K F (putK vs k v) (putD kvs k d) := by
  induction kvs generalizing vs with
  | nil =>
    cases h
    cases k with
    | inl i => exact .int r .nil
    | inr x => exact .str r .nil
  | cons p rr ih =>
    cases h with
    | @int i v' d' vs _ h t =>
      unfold putD
      by_cases e : (Sum.inl i : Key) = k
      · rw [putK_pos (p := (Sum.inl i, v')) e, if_pos (show keyOf (.int i) = some k by rw [← e]; rfl)]
        exact .int r (t.repl k r)
      · rw [putK_neg (p := (Sum.inl i, v')) e, if_neg (show ¬ keyOf (.int i) = some k from fun z => e (Option.some.inj z))]
        exact .int h (ih t)
    | @str x v' d' vs _ h t =>
      unfold putD
      by_cases e : (Sum.inr x : Key) = k
      · rw [putK_pos (p := (Sum.inr x, v')) e, if_pos (show keyOf (.str x) = some k by rw [← e]; rfl)]
        exact .str r (t.repl k r)
      · rw [putK_neg (p := (Sum.inr x, v')) e, if_neg (show ¬ keyOf (.str x) = some k from fun z => e (Option.some.inj z))]
        exact .str h (ih t)
theorem Rpk.merge : ∀ {more : List (Key × PyData)} {mv : List (Key × V)} {vs : List (Key × V)} {kvs : List (PyData × PyData)}, mv.map (·.1) = more.map (·.1) → Rps K F (mv.map (·.2)) (more.map (·.2)) → Rpk K F vs kvs → Rpk K F (mergeK vs mv) (mergeD kvs more)
  | [], mv, vs, kvs, hk, r, h => by
    have : mv = [] := List.map_eq_nil_iff.mp hk
    subst this
    exact h
  | (k, d) :: more, mv, vs, kvs, hk, r, h => by
    cases mv with
    | nil => cases hk
    | cons p mv =>
      rw [List.map_cons, List.map_cons] at hk r
      injection hk with h1 h2
      have h1 : p.1 = k := h1
      cases r with
      | cons r t =>
        show Rpk K F (mergeK (putK vs p.1 p.2) mv) (mergeD (putD kvs k d) more)
        rw [h1]
        exact Rpk.merge h2 t (h.put k r)
theorem Rpk.keys (h : Rpk K F vs kvs) : Rps K F (vs.map fun p => kV p.1) (kvs.map (·.1)) := by
  induction kvs generalizing vs with
  | nil => cases h; exact .nil
  | cons p rr ih =>
    cases h with
    | int h t => exact .cons (.int _) (ih t)
    | str h t => exact .cons (.str _) (ih t)
theorem RelF.dctAt {c : Ct} {σ : L2.St} {ρ : En} {T : Tm} {H : Hp} {fp : List Addr} (f : RelF K c σ ρ ((v, .val (.dict kvs)) :: T) H F fp) : ∃ p us, v = .ref p ∧ F p = some (.dK us) ∧ Rpk K F us kvs := by
  cases f.top with
  | dct h r => exact ⟨_, _, rfl, h, r⟩
end
/-! d[k] -/
def gIxK : PyData → PyData → Option PyData
  | .dict kvs, k => (keyOf k).bind (lkD kvs)
  | _, _ => none
def gIx2 (x y : PyData) : Option PyData := (gIx x y).or (gIxK x y)
def gInK : PyData → PyData → Option PyData
  | k, .dict kvs => (keyOf k).map fun k => .bool (lkD kvs k).isSome
  | _, _ => none
def gIn2 (x y : PyData) : Option PyData := (gIn x y).or (gInK x y)
def gNotInK : PyData → PyData → Option PyData
  | k, .dict kvs => (keyOf k).map fun k => .bool (!(lkD kvs k).isSome)
  | _, _ => none
def gNotIn2 (x y : PyData) : Option PyData := (gNotInD x y).or (gNotInK x y)
section
variable {Y : Fam} {a b : Expr} {pos : Pos}
theorem units1 {k : Nat} {A : Around} (r : Room k A) : A.units + 1 < cLine := by
  have := r.un
  omega
theorem j_ix2 {ma mb : MV} (ha : JV Y a ma) (hb : JV Y b mb) (hs : PlainIx b := by intro _ _; rfl) (hn : NoSl b := by intro _ _; rfl) : JV Y (.Subscript a b pos) (mBin gIx2 ma mb) := by
  obtain ⟨t1, p1, s1⟩ := j_ix (pos := pos) ha hb hs
  obtain ⟨ta, pa, sa⟩ := ha
  obtain ⟨tb, pb, sb⟩ := hb
  refine ⟨_, fun j => pe_or2 (p1 j) (pe_dget (units1 (Y.room j)) (pa j) (pb j) hn), fun c σ ρ T H Q re q => ?_⟩
  obtain ⟨x, ρ1, y, ρ2, z, e1, e2, hg, q⟩ := bin_inv q
  cases h1 : gIx x y with
  | some z' =>
    have hz : z' = z := by
      unfold gIx2 at hg
      rw [h1] at hg
      exact Option.some.inj hg
    subst hz
    refine .inl (s1 c σ ρ T H Q re ?_)
    have e : mBin gIx ma mb ρ = some (z', ρ2) := by
      unfold mBin
      simp only [e1, e2, h1, Option.map_some]
    rw [e]
    exact q
  | none =>
    refine .inr ?_
    unfold gIx2 at hg
    rw [h1, Option.none_or] at hg
    refine sem_bin (R := fun x y H => ∃ a v, x = V.ref a ∧ DGet H a y (some v) ∧ Q v H) sa sb re ⟨x, ρ1, y, ρ2, e1, e2, fun vx vy H2 r2 => ?_⟩
    unfold gIxK at hg
    split at hg
    · rename_i kvs
      cases hk : keyOf y with
      | none => rw [hk] at hg; cases hg
      | some κ =>
        rw [hk] at hg
        have hg : lkD kvs κ = some z := hg
        have := keyOf_eq hk
        subst this
        obtain ⟨F, fp, f⟩ := r2
        have ey : vy = kV κ := f.top.key
        obtain ⟨p, us, rfl, h3, h4⟩ := f.popV.dctAt
        have lk := h4.look κ
        rw [hg] at lk
        obtain ⟨v, hv, rv⟩ := lk
        subst ey
        exact ⟨p, v, rfl, .inl ⟨us, κ, .inl (f.fh _ _ h3), rfl, hv.symm⟩, q _ _ ⟨F, fp, f.popV.popV.push rv⟩⟩
    · cases hg
theorem opj_inK : OpJ Y (compareOp .In) gInK := by
  refine ⟨fun x y H Q => ∃ a o, y = .ref a ∧ DGet H a x o ∧ Q (.bl o.isSome) H, fun j pins s σ H x y v u Q I rx ry h => ?_, fun c σ ρ T H x y dx dy z Q r e q => ?_⟩
  · obtain ⟨p, o, rfl, g, q⟩ := h
    obtain rfl : u = Value.ref p := ry
    exact d_in (units1 (Y.room j)) I g rx fun s3 I3 => ⟨.bl o.isSome, H, I3, rfl, q⟩
  · unfold gInK at e
    split at e
    · rename_i kvs
      obtain ⟨κ, hk, rfl⟩ := Option.map_eq_some_iff.mp e
      have := keyOf_eq hk
      subst this
      have ex : x = kV κ := r.pop.top.key
      obtain ⟨F, fp, f⟩ := id r
      obtain ⟨p, us, rfl, h3, h4⟩ := f.dctAt
      have lk := h4.look κ
      subst ex
      refine ⟨p, valV us κ, rfl, .inl ⟨us, κ, .inl (f.fh _ _ h3), rfl, rfl⟩, ?_⟩
      have es : (valV us κ).isSome = (lkD kvs κ).isSome := by
        cases hl : lkD kvs κ with
        | none =>
          rw [hl] at lk
          rw [lk]
          rfl
        | some d =>
          rw [hl] at lk
          obtain ⟨v, hv, _⟩ := lk
          rw [hv]
          rfl
      rw [es]
      exact q _ H (r.pop2.pushB _)
    · cases e
theorem opj_notInK : OpJ Y (compareOp .NotIn) gNotInK := by
  refine ⟨fun x y H Q => ∃ a o, y = .ref a ∧ DGet H a x o ∧ Q (.bl (!o.isSome)) H, fun j pins s σ H x y v u Q I rx ry h => ?_, fun c σ ρ T H x y dx dy z Q r e q => ?_⟩
  · obtain ⟨p, o, rfl, g, q⟩ := h
    obtain rfl : u = Value.ref p := ry
    exact d_notIn (units1 (Y.room j)) I g rx fun s3 I3 => ⟨.bl (!o.isSome), H, I3, rfl, q⟩
  · unfold gNotInK at e
    split at e
    · rename_i kvs
      obtain ⟨κ, hk, rfl⟩ := Option.map_eq_some_iff.mp e
      have := keyOf_eq hk
      subst this
      have ex : x = kV κ := r.pop.top.key
      obtain ⟨F, fp, f⟩ := id r
      obtain ⟨p, us, rfl, h3, h4⟩ := f.dctAt
      have lk := h4.look κ
      subst ex
      refine ⟨p, valV us κ, rfl, .inl ⟨us, κ, .inl (f.fh _ _ h3), rfl, rfl⟩, ?_⟩
      have es : (valV us κ).isSome = (lkD kvs κ).isSome := by
        cases hl : lkD kvs κ with
        | none =>
          rw [hl] at lk
          rw [lk]
          rfl
        | some d =>
          rw [hl] at lk
          obtain ⟨v, hv, _⟩ := lk
          rw [hv]
          rfl
      rw [es]
      exact q _ H (r.pop2.pushB _)
    · cases e
theorem o_in2 : OpJ Y (compareOp .In) gIn2 := o_in.or opj_inK
theorem o_notIn2 : OpJ Y (compareOp .NotIn) gNotIn2 := o_notIn.or opj_notInK
end
end Fj

set_option Elab.async false
set_option linter.all false
set_option maxRecDepth 100000
set_option maxHeartbeats 4000000
set_option autoImplicit false
/-! sorted(set(xs)) of texts. -/
namespace Fj
open PySem PySem.Spec PyProof.Rows L2
/-! a set of texts in a heap -/
def keyS (e : Int × Value) : Str := match e.2 with | .str x _ => x | _ => Str.empty
def GoodS (w : World) (e : Int × Value) : Prop := ∃ x tk, e.2 = Value.str x tk ∧ e.1 = hashStr w x
def SetS (w : World) (h : Heap) (a : Addr) (l : List Str) : Prop :=
  ∃ o es ep t, h.get? a = some o ∧ o.ExactSet ∧ o.data = .set es ep t ∧ (∀ e ∈ es.toList, GoodS w e) ∧ (es.toList.map keyS).Nodup ∧ (∀ k, k ∈ l ↔ k ∈ es.toList.map keyS) ∧
    es.size < scanBound ∧ t.fits es.size = true ∧ es.size ≤ l.length ∧ Ris t.place.toList ∧ (w.params.followText "set-order" = true ∨ t.led = true)
section
variable {P : Program} {w : World} {h h' : Heap} {a : Addr} {l : List Str}
theorem SetS.at (R : SetS w h a l) (k : ∀ o, h.get? a = some o → h'.get? a = some o) : SetS w h' a l := by
  obtain ⟨o, es, ep, t, ho, r⟩ := R
  exact ⟨o, es, ep, t, k o ho, r⟩
theorem goodS_elems {es : List (Int × Value)} (g : ∀ e ∈ es, GoodS w e) : ElemsOf (strKind P w) es := fun e he => by
  obtain ⟨k, tk, h1, h2⟩ := g e he
  exact ⟨⟨k, by rw [h1]; exact Froz.is_str k tk, h2⟩, by rw [h1] <;> rfl⟩
theorem goodS_is {e : Int × Value} (g : GoodS w e) (k : Str) : (strKind P w).is k e.2 = true ↔ keyS e = k := by
  obtain ⟨k0, tk, h1, _⟩ := g
  unfold keyS
  rw [h1]
  show (Value.isStrOf k (.str k0 tk) = true) ↔ k0 = k
  simp only [Value.isStrOf, beq_iff_eq]
theorem goodS_mem {es : List (Int × Value)} (g : ∀ e ∈ es, GoodS w e) (k : Str) : k ∈ es.map keyS ↔ ∃ e ∈ es, (strKind P w).is k e.2 = true := by
  rw [List.mem_map]
  exact ⟨fun ⟨e, he, q⟩ => ⟨e, he, (goodS_is (g e he) k).2 q⟩, fun ⟨e, he, q⟩ => ⟨e, he, (goodS_is (g e he) k).1 q⟩⟩
end
section
variable {P : Program} {w : World} {A : Around} {E : Value → Shared → Prop} {s : Shared} {a : Addr} {l : List Str}
theorem setS_tail {g : Bool → Sem Unit} (hg : ∀ (b : Bool) (s₁ : Shared) (Q' : Unit → Shared → Prop), Q' () s₁ → wpAny (model P w) A (g b) Q' E s₁)
    {o : Obj} {es : Array (Int × Value)} {ep : Nat} {t : SetTable} (ho : s.heap.get? a = some o) (hex : o.ExactSet) (hd : o.data = .set es ep t)
    {es1 : Array (Int × Value)} {t2 : SetTable} (g1 : ∀ e ∈ es1.toList, GoodS w e) (nd1 : (es1.toList.map keyS).Nodup) (m1 : ∀ k, k ∈ l ↔ k ∈ es1.toList.map keyS)
    (hb1 : es1.size < scanBound) (hf2 : t2.fits es1.size = true) (hn : es1.size ≤ l.length) (hr : Ris t2.place.toList) (hl : w.params.followText "set-order" = true ∨ t2.led = true) {wasDummy : Bool} {R : Option Bool → Shared → Prop}
    (hR : ∀ h', Heap.SameBut a s.heap h' → SetS w h' a l → R (some true) { s with heap := h' }) :
    wpAny (model P w) A (do
        storeSet a es1 t2
        if (!wasDummy && t2.tooFull) = true then do
            g (relayAll t2 es1 (SetTable.grown es1.size)).2.2
            storeSet a (relayAll t2 es1 (SetTable.grown es1.size)).1 (relayAll t2 es1 (SetTable.grown es1.size)).2.1
            pure (some true)
          else pure (some true)) R E s := by
  refine wpAny_bind (wpAny_storeSet_of ho hd ?_ (fits_of_scanBound hb1))
  have ho1 := store_at (es' := es1) (t' := t2) ho hd
  have sb1 := Heap.SameBut.update s.heap a (Obj.putSet es1 t2)
  split
  · have pm := relayAll_perm t2 es1 (SetTable.grown es1.size)
    have hf3 := relayAll_fits t2 es1 (SetTable.grown es1.size)
    have hr3 := relayAll_ris t2 es1 (SetTable.grown es1.size)
    have hl3 := relayAll_led t2 es1 (SetTable.grown es1.size)
    generalize relayAll t2 es1 (SetTable.grown es1.size) = Z at pm hf3 hr3 hl3 ⊢
    obtain ⟨es2, t3, gave⟩ := Z
    dsimp only at pm hf3 hr3 hl3 ⊢
    have hsz : es2.size = es1.size := by rw [← Array.length_toList, pm.length_eq, Array.length_toList]
    have hb2 : es2.size < scanBound := by rw [hsz]; exact hb1
    refine wpAny_bind (hg _ _ _ ?_)
    refine wpAny_bind (wpAny_storeSet_of ho1 rfl ?_ (fits_of_scanBound hb2))
    have ho2 := store_at (es' := es2) (t' := t3) ho1 rfl
    refine wpAny_pure (hR _ (sb1.trans (Heap.SameBut.update _ a _)) ?_)
    exact ⟨_, es2, _, t3, ho2, hex, rfl, fun e he => g1 e (pm.mem_iff.mp he), (pm.map keyS).nodup_iff.mpr nd1, fun k => (m1 k).trans (pm.map keyS).mem_iff.symm, hb2, hf3, by rw [hsz]; exact hn, hr3,
      hl.imp id fun z => by rw [hl3]; exact z⟩
  · exact wpAny_pure (hR _ sb1 ⟨_, es1, _, t2, ho1, hex, rfl, g1, nd1, m1, hb1, hf2, hn, hr, hl⟩)
theorem setS_add {k : Str} {tk : Tok} {Q : Bool → Shared → Prop} (R : SetS w s.heap a l) (room : l.length + 1 < scanBound)
    (hQ : ∀ h' b, Heap.SameBut a s.heap h' → SetS w h' a (l ++ [k]) → Q b { s with heap := h' }) :
    wpAny (model P w) A (setAddHashed a (.str k tk) ((strKind P w).hash k)) Q E s := by
  obtain ⟨o, es, ep, t, ho, hex, hd, g, nd, hm, hb, hf, hn, hr, hl⟩ := R
  have hkey : (strKind P w).is k (.str k tk) = true := Froz.is_str k tk
  have hsc : (Value.str k tk).scannable = true := rfl
  have hel : ElemsOf (strKind P w) es.toList := goodS_elems g
  unfold setAddHashed setAddHashedIn
  refine wpAny_holding (wpAny_bind (wpAny_setState_of ho hd hf ?_))
  dsimp only
  rw [byScan_of hsc hb hel]
  simp only [↓reduceIte]
  unfold setAddByScan
  refine wpAny_bind ?_
  refine wpAny_bind (wpAny_rule ?_)
  refine wpAny_bind (wpAny_setScan_of hkey ho hd hf hel ?_)
  cases hfi : List.findIdx? (fun e => (strKind P w).is k e.2) es.toList with
  | some j =>
    dsimp only
    obtain ⟨hj, pj, _⟩ := List.findIdx?_eq_some_iff_getElem.mp hfi
    have hSk : k ∈ l := (hm k).2 ((goodS_mem (P := P) (w := w) g k).2 ⟨es.toList[j], List.getElem_mem hj, pj⟩)
    refine wpAny_pure (wpAny_pure ?_)
    refine hQ s.heap _ (Heap.SameBut.refl a s.heap) ⟨o, es, ep, t, ho, hex, hd, g, nd, fun i => ?_, hb, hf, by rw [List.length_append]; omega, hr, hl⟩
    rw [List.mem_append, List.mem_singleton, ← hm i]
    exact ⟨fun z => z.elim id (fun e => e ▸ hSk), .inl⟩
  | none =>
    dsimp only
    have hnk : k ∉ es.toList.map keyS := fun z => by
      obtain ⟨e, he, q⟩ := (goodS_mem (P := P) (w := w) g k).1 z
      have c := List.findIdx?_eq_none_iff.mp hfi e he
      rw [q] at c
      cases c
    have hgw : ∀ (b : Bool) {s₁ : Shared} {Q' : Unit → Shared → Prop}, Q' () s₁ → wpAny (model P w) A (match b with | true => rule "set.scan.the-table-gave-way" | false => pure ()) Q' E s₁ :=
      fun b s₁ Q' q => by cases b <;> first | exact wpAny_pure q | exact wpAny_rule q
    have pm := layNew_perm t es ((strKind P w).hash k) (.str k tk)
    have hf1 := layNew_fits t es ((strKind P w).hash k) (.str k tk)
    have hr1 := layNew_ris t es ((strKind P w).hash k) (.str k tk) hr
    have hl1 := layNew_led t es ((strKind P w).hash k) (.str k tk)
    generalize layNew t es ((strKind P w).hash k) (.str k tk) = Z at pm hf1 hr1 hl1 ⊢
    obtain ⟨es1, t1, wasDummy, gave⟩ := Z
    dsimp only at pm hf1 hr1 hl1 ⊢
    rw [Array.toList_push] at pm
    have pc : es1.toList.Perm (((strKind P w).hash k, Value.str k tk) :: es.toList) := pm.trans (List.perm_append_singleton _ _)
    have pk : (es1.toList.map keyS).Perm (k :: es.toList.map keyS) := pc.map keyS
    have g1 : ∀ e ∈ es1.toList, GoodS w e := fun e he => by
      rcases List.mem_cons.mp (pc.mem_iff.mp he) with z | z
      · rw [z]; exact ⟨k, tk, rfl, rfl⟩
      · exact g e z
    have nd1 : (es1.toList.map keyS).Nodup := pk.nodup_iff.mpr (List.nodup_cons.mpr ⟨hnk, nd⟩)
    have m1 : ∀ i, i ∈ l ++ [k] ↔ i ∈ es1.toList.map keyS := fun i => by
      rw [List.mem_append, List.mem_singleton, hm i, pk.mem_iff, List.mem_cons]
      exact Or.comm
    have hsz : es1.size = es.size + 1 := by rw [← Array.length_toList, pc.length_eq, List.length_cons, Array.length_toList]
    have hb1 : es1.size < scanBound := by omega
    have hn1 : es1.size ≤ (l ++ [k]).length := by rw [List.length_append, List.length_singleton]; omega
    have hled : w.params.followText "set-order" = true ∨ t1.led = true := hl.imp id fun z => by rw [hl1]; exact z
    refine wpAny_bind (hgw _ ?_)
    split
    · refine wpAny_bind ?_
      rw [hashByValue_scannable 8 hsc]
      refine wpAny_pure ?_
      refine setS_tail ?_ ho hex hd g1 nd1 m1 hb1 ?_ hn1 ?_ ?_ ?_
      · intro b s₁ Q' q; cases b <;> first | exact wpAny_pure q | exact wpAny_rule q
      · first | (split <;> first | exact hf1 | exact SetTable.fits_plain_off hf1) | exact hf1
      · first | (split <;> exact hr1) | exact hr1
      · first | (split <;> exact hled) | exact hled
      · intro h' sb r; dsimp only; exact wpAny_pure (hQ h' _ sb r)
    · refine wpAny_bind (wpAny_pure ?_)
      simp only [↓reduceIte]
      refine setS_tail ?_ ho hex hd g1 nd1 m1 hb1 hf1 hn1 hr1 hled ?_
      · intro b s₁ Q' q; cases b <;> first | exact wpAny_pure q | exact wpAny_rule q
      · intro h' sb r; dsimp only; exact wpAny_pure (hQ h' _ sb r)

theorem setS_new {h : Heap} {a : Addr} (ho : h.get? a = some { cls := .type "set", dict := none, data := .set #[] 0 (.fresh 0 0 (!w.params.followText "set-order")) }) : SetS w h a [] :=
  ⟨_, #[], 0, _, ho, ⟨rfl, rfl, rfl⟩, rfl, (fun e he => by simp at he), (by simp), (fun k => by simp), (by decide), (by rfl), Nat.le_refl _, List.Pairwise.nil, by
    show _ ∨ (!w.params.followText "set-order") = true
    cases w.params.followText "set-order"
    · exact .inr rfl
    · exact .inl rfl⟩
theorem upd_strs {I : Addr} {fp wr : List Addr} {G : Array GenState → Array GenState → Prop} {n : Nat} {Pv : Nat → Value → Prop} {St : Nat → Shared → Prop} {R : Result → Shared → Prop}
    (W : WalksS P w A.in1 I fp wr G n Pv St) (S : Addr) (hSf : S ∉ fp) (xs : List Str) (hn : n = xs.length) (hb : xs.length + 1 < scanBound) (hval : ∀ i v, Pv i v → ∃ k t, xs[i]? = some k ∧ v = .str k t) :
    ∀ (k i : Nat) (s : Shared), n - i = k → i ≤ n → St i s → SetS w s.heap S (xs.take i) →
      (∀ s', Moved (S :: wr) G s s' → SetS w s'.heap S xs → R (.ok (.ret .none)) s') →
      codeAny (model P w) A (.builtin "set.update.loop" ⟨[.ref S, .ref I], []⟩) R s := by
  have hSw : S ∉ wr := fun h => hSf (W.sub _ h)
  have hsub : ∀ b ∈ wr, b ∈ S :: wr := fun b hb => List.mem_cons_of_mem _ hb
  intro k
  induction k with
  | zero =>
    intro i s hk' hi hst hS hR
    have hin : i = n := by omega
    subst hin
    refine codeAny_builtin F.entry_set_update_loop ?_
    rw [Around.under_plainId F.plain_set_update_loop _]
    show wpAny _ A.in1 (pyNext (.ref I) >>= _) _ _ s
    refine wpAny_bind (W.done s _ _ hst fun s' hm => ?_)
    show wpAny _ A.in1 (ret Value.none) _ _ s'
    have e : xs.take i = xs := List.take_of_length_le (by omega)
    rw [e] at hS
    exact wpAny_pure (hR s' (hm.mono hsub) (hS.at fun o e => hm.heap S o hSw e))
  | succ k ih =>
    intro i s hk' hi hst hS hR
    have hlt : i < n := by omega
    refine codeAny_builtin F.entry_set_update_loop ?_
    rw [Around.under_plainId F.plain_set_update_loop _]
    show wpAny _ A.in1 (pyNext (.ref I) >>= _) _ _ s
    refine wpAny_bind (W.item i s _ _ hlt hst fun v s' hP hst' hm => ?_)
    obtain ⟨z, t, hz, rfl⟩ := hval i v hP
    have hS' : SetS w s'.heap S (xs.take i) := hS.at fun o e => hm.heap S o hSw e
    have hlen : (xs.take i).length ≤ xs.length := by rw [List.length_take]; omega
    show wpAny _ A.in1 (holding [Value.str z t] (setAdd S (.str z t)) >>= _) _ _ s'
    refine wpAny_bind (wpAny_holding ?_)
    unfold setAdd
    refine wpAny_holding ?_
    refine wpAny_bind ((strKind P w).pyHash (k := z) (Froz.is_str z t) ?_)
    refine setS_add (s := { s' with toks := s'.toks + 1 }) hS' (by omega) fun h' bb hsb hS2 => ?_
    have hS3 : SetS w h' S (xs.take (i + 1)) := by
      rw [List.take_add_one, hz]
      exact hS2
    refine wpAny_pure ⟨plainId_quiet F.plain_set_update_loop _, ih (i + 1) _ (by omega) hlt (W.frame _ s' _ _ hst' (Nat.le_succ _) fun b hb o e => ?_) hS3 fun s'' hm'' hS'' => ?_⟩
    · rw [hsb.2 b (fun h : b = S => hSf (by rw [← h]; exact hb))]; exact e
    · refine hR s'' (Moved.trans W.gtrans ((hm.mono hsub).then_heap (Nat.le_succ _) fun b o hb e => ?_) hm'') hS''
      rw [hsb.2 b (fun h : b = S => hb (by rw [h]; exact List.mem_cons_self))]; exact e
theorem strs_in : ∀ {vs : List Value} {xs : List Str}, StrsAre vs xs → ∀ (i : Nat) (v : Value), vs[i]? = some v → ∃ k t, xs[i]? = some k ∧ v = .str k t
  | _, _, .nil, i, v, e => by simp at e
  | _, _, .cons x t h, 0, v, e => by
    have e : Value.str x t = v := by simpa using e
    exact ⟨x, t, rfl, e.symm⟩
  | _, _, .cons x t h, i + 1, v, e => strs_in h i v (by simpa using e)
set_option maxHeartbeats 3200000 in
theorem call_setS {l : Addr} {items : Array Value} (xs : List Str) {Q : Value → Shared → Prop} (hh : A.handled = none) (hl : s.heap.IsList l items) (hit : StrsAre items.toList xs) (hb : xs.length + 1 < scanBound)
    (h : ∀ (h' : Heap) (tk : Nat), SetS w h' s.heap.objs.size xs → (∀ b o, s.heap.get? b = some o → h'.get? b = some o) → Q (.ref s.heap.objs.size) { s with heap := h', toks := tk }) :
    wpAny (model P w) A (call (.type "set") [.ref l]) Q E s := by
  have hisz : items.size = xs.length := by
    have q := StrsAre.len_eq hit
    rw [Array.length_toList] at q
    exact q
  obtain ⟨c, tl, hmro⟩ := F.called_set.mro
  have hmade := F.called_set.made
  have hsub := F.called_set.sub
  refine wpAny_call (codeAny_of_tree ?_)
  show wpAny _ _ (callAny (.type "set") _) _ _ _
  refine wpAny_pure ⟨Code.quiet_builtin _ (by decide +kernel), codeAny_builtin F.entry_type_call ?_⟩
  rw [Around.under_plain (weight_type_call_type "set" [.ref l] []) rfl]
  have h1 := F.called_set.notType
  have h2 := F.called_set.canCreate
  have hct := F.typeCall_set_1 (.ref l)
  repeat (any_goals (first | assumption | wp_step))
  refine codeAny_mono (code_set_led1 (.ref l) (E := E) (Q₁ := fun obj s₁ => obj = .ref s.heap.objs.size ∧ s₁ = { s with heap := s.heap.push { cls := .type "set", dict := none, data := .set #[] 0 (.fresh 0 0 (!w.params.followText "set-order")) } }) ⟨rfl, rfl⟩) fun r s₁ hr => ?_
  cases r with
  | error e => exact hr
  | ok fl =>
    cases fl with
    | ret obj =>
      obtain ⟨rfl, rfl⟩ := hr
      have hS : (s.heap.push { cls := .type "set", dict := none, data := .set #[] 0 (.fresh 0 0 (!w.params.followText "set-order")) }).get? s.heap.objs.size = some { cls := .type "set", dict := none, data := .set #[] 0 (.fresh 0 0 (!w.params.followText "set-order")) } := Heap.get?_push_size _ rfl
      have hT : Shared.TypeIs { s with heap := s.heap.push { cls := .type "set", dict := none, data := .set #[] 0 (.fresh 0 0 (!w.params.followText "set-order")) } } (.ref s.heap.objs.size) "set" := ⟨_, hS, rfl⟩
      have hli := F.called_set.init.lookup
      have hbi := F.called_set.init.bind (.ref s.heap.objs.size)
      repeat (any_goals (first | assumption | wp_step))
      refine codeAny_mono (codeAny_call_builtin (R := wants (fun r s₂ => r = .none ∧ ∃ h' tk, s₂ = { s with heap := h', toks := tk } ∧ SetS w h' s.heap.objs.size xs ∧
          (∀ b o, s.heap.get? b = some o → h'.get? b = some o)) E) F.called_set.init.plain F.entry_set_init (check_set_init_1 hT ?_)) fun r₂ s₂ hr₂ => ?_
      · obtain ⟨ol, hol, hcl, nl, hdl⟩ := hl
        obtain ⟨ocls, odict, odata, oslots⟩ := ol
        simp only at hcl hdl
        subst hcl; subst hdl
        have hol' : (s.heap.push { cls := .type "set", dict := none, data := .set #[] 0 (.fresh 0 0 (!w.params.followText "set-order")) }).get? l = some { cls := .type "list", dict := odict, data := .seq items nl, slots := oslots } := Heap.get?_push_of_some _ hol
        have hsls := F.sub_list_set
        have hslf := F.sub_list_frozenset
        have hne : (Value.type "list" == Value.type "dict") = false := by decide
        have hl1 : (s.heap.push { cls := .type "set", dict := none, data := .set #[] 0 (.fresh 0 0 (!w.params.followText "set-order")) }).IsList l items := ⟨_, hol', rfl, nl, rfl⟩
        unfold Builtin.«set.__init__» noKeywords Builtin.Frozenset.updateFrom
        generalize hPI : pyIter = PI
        wp_walk
        subst hPI
        refine wpAny_pyIter_list hl1 ?_
        refine wpAny_bind (wpAny_runValue ?_)
        have hlS : l < s.heap.objs.size := Heap.lt_size hol
        have hh3 : A.in1.in1.in1.handled = none := by simp [hh]
        have hneI : l ≠ (s.heap.push { cls := .type "set", dict := none, data := .set #[] 0 (.fresh 0 0 (!w.params.followText "set-order")) }).objs.size := by
          rw [Heap.size_push]; exact Nat.ne_of_lt (Nat.lt_succ_of_lt hlS)
        have hSf : s.heap.objs.size ∉ [(s.heap.push { cls := .type "set", dict := none, data := .set #[] 0 (.fresh 0 0 (!w.params.followText "set-order")) }).objs.size, l] := by
          rw [Heap.size_push]; simp only [List.mem_cons, List.mem_singleton, List.not_mem_nil, or_false, not_or]
          exact ⟨Nat.ne_of_lt (Nat.lt_succ_self _), Nat.ne_of_gt hlS⟩
        have hval : ∀ (i : Nat) (v : Value), items[i]? = some v → ∃ k t, xs[i]? = some k ∧ v = .str k t := fun i v hv => strs_in hit i v (by rw [Array.getElem?_toList]; exact hv)
        refine upd_strs ((Walks.list hh3 _ l hneI items).toS) s.heap.objs.size
          hSf xs hisz hb hval (items.size - 0) 0 _ (by omega) (Nat.zero_le _)
          ⟨⟨_, Heap.get?_push_size _ rfl, rfl, rfl⟩, (hl1.push _)⟩ ?hS0 ?hR
        case hS0 =>
          have hget : ((s.heap.push { cls := .type "set", dict := none, data := .set #[] 0 (.fresh 0 0 (!w.params.followText "set-order")) }).push { cls := .type "list_iterator", data := .fields #[.ref l, .int 0 0] }).get? s.heap.objs.size
              = some { cls := .type "set", dict := none, data := .set #[] 0 (.fresh 0 0 (!w.params.followText "set-order")) } := Heap.get?_push_of_some _ hS
          exact setS_new hget
        case hR =>
          intro s' hm hS'
          obtain ⟨h', g2, d', tk', os'⟩ := s'
          have eg : g2 = s.gens := hm.gens
          have ed : d' = s.drawn := hm.drawn
          have eo : os' = s.os := hm.os
          subst eg; subst ed; subst eo
          show wpAny _ _ _ _ _ _
          refine wpAny_pure ?_
          show wpAny _ _ (ret Value.none) _ _ _
          refine wpAny_pure ⟨rfl, h', tk', rfl, hS', fun b o e => ?_⟩
          have hb0 : b < s.heap.objs.size := Heap.lt_size e
          have hb1 : b ≠ s.heap.objs.size := Nat.ne_of_lt hb0
          have hb2 : b ≠ (s.heap.push { cls := .type "set", dict := none, data := .set #[] 0 (.fresh 0 0 (!w.params.followText "set-order")) }).objs.size := by
            rw [Heap.size_push]; exact Nat.ne_of_lt (Nat.lt_succ_of_lt hb0)
          exact hm.heap b o (by simp only [List.mem_cons, List.mem_singleton, List.not_mem_nil, or_false, not_or]; exact ⟨hb1, hb2⟩) (Heap.get?_push_of_some _ (Heap.get?_push_of_some _ e))
      · cases r₂ with
        | error e => exact hr₂
        | ok fl₂ =>
          cases fl₂ with
          | ret r =>
            obtain ⟨rfl, h', tk, rfl, hS', hk'⟩ := hr₂
            repeat (any_goals (first | assumption | wp_step))
            exact h _ _ hS' hk'
          | _ => exact hr₂.elim
    | _ => exact hr.elim
end
end Fj

set_option Elab.async false
set_option linter.all false
set_option maxRecDepth 100000
set_option maxHeartbeats 4000000
set_option autoImplicit false
/-! sorted(set(xs)) of texts: the sort; the judgement. -/
namespace Fj
open PySem PySem.Spec PyProof.Rows L2
section
variable {P : Program} {w : World} {A : Around} {E : Value → Shared → Prop} {s : Shared} {a : Addr} {l : List Str}
theorem strs_of : ∀ (l : List Value), (∀ v ∈ l, ∃ k tk, v = Value.str k tk) → StrsAre l (l.map fun v => match v with | .str x _ => x | _ => Str.empty)
  | [], _ => .nil
  | v :: l, h => by
    obtain ⟨k, tk, rfl⟩ := h v List.mem_cons_self
    exact .cons k tk (strs_of l fun u hu => h u (List.mem_cons_of_mem _ hu))
theorem sorted_setS {Q : Value → Shared → Prop} (R : SetS w s.heap a l) (hh : A.handled = none) (h64 : l.length < 64)
    (hQ : ∀ s' p (out : Array Value) (c : Nat) (ys : List Str), (∀ b o, s.heap.get? b = some o → s'.heap.get? b = some o) → s'.gens = s.gens → s'.os = s.os → s.heap.objs.size ≤ p →
      s'.heap.get? p = some (seqObj "list" out c) → StrsAre out.toList ys → sortedS ys = true → ys.Nodup → (∀ k, k ∈ ys ↔ k ∈ l) → ys.length ≤ l.length → Q (.ref p) s') :
    wpAny (model P w) A (call (.builtin "sorted") [.ref a]) Q E s := by
  obtain ⟨o, es, ep, t, ho, hex, hd, g, nd, hm, hb, hf, hn, hr, hl⟩ := R
  refine Calls.call_function_entry kind_sorted plain_sorted entry_sorted (args_sorted1 _) ?_
  unfold Builtin.«sorted»
  refine wpAny_bind (m := checkCount "sorted" 1 1 _) (wpAny_pure ?_)
  refine wpAny_bind (collect_set (A := A.in1) hh ⟨o, ho, hex.1, hd⟩ hf hb hr hl fun s1 vs k1 hz g1 o1 pm => ?_)
  have hvl : vs.length = es.size := by rw [pm.length_eq, List.length_map, Array.length_toList]
  have hS := strs_of vs fun v hv => by
    obtain ⟨e, he, q⟩ := List.mem_map.mp (pm.mem_iff.mp hv)
    obtain ⟨k, tk, h1, _⟩ := g e he
    exact ⟨k, tk, by rw [← q]; exact h1⟩
  have pk : (vs.map fun v => match v with | .str x _ => x | _ => Str.empty).Perm (es.toList.map keyS) := by
    have q := pm.map (fun v => match v with | .str x _ => x | _ => Str.empty)
    rw [List.map_map] at q
    exact q
  refine wpAny_bind (wpAny_newList ?_ (by rw [hvl, sizeLine_eq]; omega))
  have hoL : (s1.heap.push (seqObj "list" vs.toArray 0)).get? s1.heap.objs.size = some (seqObj "list" vs.toArray 0) := Heap.get?_push_size _ rfl
  refine wpAny_bind (wpAny_holding (wpAny_call_entry slot_list_sort ⟨_, hoL, rfl⟩ entry_list_sort
    (list_sort_treeK strKind_oneLt (s := { s1 with heap := s1.heap.push (seqObj "list" vs.toArray 0) }) hoL hS.keysOf (fun v₁ v₂ rest e => keyKind_strs (by rw [← e]; exact hS)) (by rw [hvl]; omega) fun st' hp hs => ⟨_, rfl, ?_⟩)
    (args_list_sort _)))
  obtain ⟨ys, z1, z2, z3⟩ := sorted_out_str hS hp hs
  obtain ⟨c, hc⟩ := sortedHeap_at (vs := vs) (out := (arrOf st').map (·.2)) hoL
  have pn : ys.Perm (es.toList.map keyS) := z2.trans pk
  refine wpAny_pure ⟨_, rfl, hQ _ s1.heap.objs.size _ c ys (fun b u e => ?_) g1 o1 hz hc z1 z3 (pn.nodup_iff.mpr nd) (fun k => by rw [pn.mem_iff, ← hm k]) ?_⟩
  · have q := k1 b u e
    have hlt := Heap.lt_size q
    show (sortedHeap (s1.heap.push (seqObj "list" vs.toArray 0)) s1.heap.objs.size vs _).get? b = some u
    rw [sortedHeap_old (Nat.ne_of_lt hlt) (by rw [size_push']; exact Nat.lt_succ_of_lt hlt)]
    exact Heap.get?_push_of_some _ q
  · rw [pn.length_eq, List.length_map, Array.length_toList]; exact hn
end
def SetSO (w : World) (a : Addr) (l : List Str) : HO := .ext fun h => SetS w h a l
theorem setSO_new {w : World} {P : Program} {H : Hp} {h : Heap} {a : Addr} {l : List Str} (R : SetS w h a l) : ObjOk P w H h a (SetSO w a l) := by
  have ⟨o, _, _, _, ho, _⟩ := R
  exact ⟨R, ⟨o, ho⟩, fun h1 h2 p k => SetS.at p k⟩
theorem setSO_get {X : Cx} {pins : List (Addr × Obj)} {σ : L2.St} {H : Hp} {s : Shared} {a : Addr} {l : List Str} (I : Inv X pins σ H s) (ha : H a = some (SetSO X.w a l)) : SetS X.w s.heap a l := (I.hok a _ ha).1
/-- set(xs), xs a list of texts -/
def rSetStr (K : PySem.W.Frag) (w : World) : List V → Hp → VK → Prop := fun vs H Q => ∃ (l : Addr) (xs : List Str), vs = [V.ref l] ∧ SqL K H l (xs.map V.str) ∧ xs.length < 64 ∧ ∀ p, H p = none → Q (.ref p) (upd H p (SetSO w p xs))
theorem vals_strs : ∀ {xs : List Str} {us : List Value}, Vals (xs.map V.str) us → StrsAre us xs
  | [], _, r => by
    rw [List.map_nil] at r
    cases r
    exact .nil
  | x :: xs, _, r => by
    rw [List.map_cons] at r
    cases r with
    | cons h t =>
      obtain ⟨tk, rfl⟩ := (show ∃ t, _ = Value.str x t from h)
      exact .cons x tk (vals_strs t)
theorem cr_setStr {X : Cx} (hc : X.calm = true) : CallR X (.type "set") (rSetStr X.K X.w) := by
  intro pins s σ H vs us Q I r h
  obtain ⟨l, xs, rfl, hs, hn, q⟩ := h
  obtain ⟨its, rv, hL, hz⟩ := I.list hs
  rw [Vals.ref1 r]
  have hb : xs.length + 1 < scanBound := Nat.lt_of_lt_of_le (by omega : xs.length + 1 < 65) (by decide)
  refine call_setS xs (I.ok.hd hc) hL.isList (by simpa using vals_strs rv) hb fun h' tk hS hk => ?_
  exact ⟨.ref _, upd H _ (SetSO X.w _ xs), I.laid (t' := tk) hk (Nat.le_refl _) (setSO_new hS), rfl, q _ (I.hok.fresh (Nat.le_refl _))⟩
def rSortedStr (w : World) : List V → Hp → VK → Prop := fun vs H Q => ∃ (a : Addr) (l : List Str), vs = [V.ref a] ∧ H a = some (SetSO w a l) ∧ l.length < 64 ∧
  ∀ (ys : List Str) (p : Addr), sortedS ys = true → ys.Nodup → (∀ k, k ∈ ys ↔ k ∈ l) → H p = none → Q (.ref p) (upd H p (.lst (ys.map V.str)))
theorem cr_sortedStr {X : Cx} (hc : X.calm = true) : CallR X (.builtin "sorted") (rSortedStr X.w) := by
  intro pins s σ H vs us Q I r h
  obtain ⟨a, l, rfl, ha, h64, q⟩ := h
  have R := setSO_get I ha
  rw [Vals.ref1 r]
  refine sorted_setS R (I.ok.hd hc) h64 fun s' p out c ys k g o hp hg hi hs hnd hm hl => ?_
  have hlen : (ys.map V.str).length ≤ sizeLine := by rw [List.length_map, sizeLine_eq]; omega
  have hn : H p = none := I.hok.fresh hp
  have J : Inv X pins σ (upd H p (.lst (ys.map V.str))) { s with heap := s'.heap, gens := s'.gens, drawn := s'.drawn, toks := s'.toks } :=
    I.call (ch := []) (Un.laid k hp hn) (I.hok.laid k hp ⟨hlen, out.toList, c, vals_of_strs hi, hg⟩) (by rw [g]; exact I.bare) (fun _ z => nomatch z)
  have e : s' = { s with heap := s'.heap, gens := s'.gens, drawn := s'.drawn, toks := s'.toks } := by
    cases s'
    cases s
    cases o
    rfl
  rw [e]
  exact ⟨.ref p, _, J, rfl, q ys p hs hnd hm hn⟩
end Fj

set_option Elab.async false
set_option linter.all false
set_option maxRecDepth 100000
set_option maxHeartbeats 4000000
set_option autoImplicit false
/-! texts in order: sorted(set(xs)); "".join(xs). -/
namespace Fj
open PySem PySem.Spec PyProof.Rows L2
theorem ltC_irr : ∀ a : List Nat, ltCps a a = false
  | [] => rfl
  | x :: a => by
    have := ltC_irr a
    unfold ltCps
    simp [this]
theorem ltC_tr : ∀ {a b c : List Nat}, ltCps a b = true → ltCps b c = true → ltCps a c = true
  | [], [], _, h, _ => by simp [ltCps] at h
  | [], _ :: _, [], _, h => by simp [ltCps] at h
  | [], _ :: _, _ :: _, _, _ => by simp [ltCps]
  | _ :: _, [], _, h, _ => by simp [ltCps] at h
  | _ :: _, _ :: _, [], _, h => by simp [ltCps] at h
  | x :: a, y :: b, z :: c, h, g => by
    unfold ltCps at h g ⊢
    simp only [Bool.or_eq_true, Bool.and_eq_true, decide_eq_true_eq, beq_iff_eq] at h g ⊢
    rcases h with h | ⟨h1, h2⟩ <;> rcases g with g | ⟨g1, g2⟩
    · exact .inl (Nat.lt_trans h g)
    · exact .inl (g1 ▸ h)
    · exact .inl (h1 ▸ g)
    · exact .inr ⟨h1.trans g1, ltC_tr h2 g2⟩
theorem ltC_tot : ∀ {a b : List Nat}, ltCps a b = false → ltCps b a = false → a = b
  | [], [], _, _ => rfl
  | [], _ :: _, h, _ => by simp [ltCps] at h
  | _ :: _, [], _, h => by simp [ltCps] at h
  | x :: a, y :: b, h, g => by
    unfold ltCps at h g
    simp only [Bool.or_eq_false_iff, Bool.and_eq_false_iff, decide_eq_false_iff_not] at h g
    have e : x = y := by omega
    subst e
    have h2 : ltCps a b = false := by simpa using h.2
    have g2 : ltCps b a = false := by simpa using g.2
    rw [ltC_tot h2 g2]
def ltT (x y : Str) : Bool := ltCps x.cps.toList y.cps.toList
theorem ltT_irr (x : Str) : ltT x x = false := ltC_irr _
theorem ltT_tr {x y z : Str} (h : ltT x y = true) (g : ltT y z = true) : ltT x z = true := ltC_tr h g
theorem ltT_asym {x y : Str} (h : ltT x y = true) : ltT y x = false := by
  cases g : ltT y x with
  | false => rfl
  | true =>
    have := ltT_tr h g
    rw [ltT_irr] at this
    cases this
theorem ltT_tot {x y : Str} (h : ltT x y = false) (g : ltT y x = false) : x = y := by
  have := ltC_tot h g
  obtain ⟨⟨x⟩⟩ := x
  obtain ⟨⟨y⟩⟩ := y
  have e : x = y := this
  rw [e]
theorem ltT_le {x y z : Str} (h : ltT y x = false) (g : ltT z y = false) : ltT z x = false := by
  cases k : ltT z x with
  | false => rfl
  | true =>
    cases m : ltT y z with
    | true =>
      have := ltT_tr m k
      rw [h] at this
      cases this
    | false =>
      have e := ltT_tot m g
      subst e
      rw [h] at k
      cases k
theorem ord_T : Ord ltT := ⟨fun _ _ h => ltT_asym h, fun _ _ _ h g => ltT_le h g⟩
theorem rising_pw : ∀ {l : List Str} {p : Str}, risingS p l = true → (p :: l).Pairwise (fun a b => ltT b a = false)
  | [], p, _ => List.pairwise_singleton _ _
  | x :: l, p, h => by
    have h : (!ltCps x.cps.toList p.cps.toList && risingS x l) = true := h
    rw [Bool.and_eq_true, Bool.not_eq_true'] at h
    have ih := rising_pw h.2
    refine List.pairwise_cons.mpr ⟨fun y hy => ?_, ih⟩
    rcases List.mem_cons.mp hy with e | e
    · rw [e]
      exact h.1
    · exact ltT_le h.1 ((List.pairwise_cons.mp ih).1 y e)
theorem sorted_pw : ∀ {l : List Str}, sortedS l = true → l.Pairwise (fun a b => ltT b a = false)
  | [], _ => List.Pairwise.nil
  | x :: l, h => rising_pw h
/-- the texts of a row, each once, in order -/
def srtT (xs : List Str) : List Str := isort ltT (dedup xs)
theorem srtT_mem {xs : List Str} {x : Str} : x ∈ srtT xs ↔ x ∈ xs := by
  unfold srtT
  rw [(isort_perm _ _).mem_iff, mem_dedup]
theorem srtT_up (xs : List Str) : (srtT xs).Pairwise (fun a b => ltT a b = true) := by
  have nd : (srtT xs).Nodup := (isort_perm _ _).nodup_iff.mpr (nodup_dedup _)
  exact ((isort_sorted ord_T _).and nd).imp fun {a b} ⟨h1, h2⟩ => Bool.of_not_eq_false fun z => h2 (ltT_tot z h1)
theorem srtT_eq {xs ys : List Str} (h1 : sortedS ys = true) (h2 : ys.Nodup) (h3 : ∀ k, k ∈ ys ↔ k ∈ xs) : ys = srtT xs :=
  uniq_strict (r := fun a b : Str => ltT a b = true) (fun a z => by rw [ltT_irr] at z; cases z) (fun a b h z => by rw [ltT_asym h] at z; cases z) (fun x => by rw [h3, srtT_mem])
    (((sorted_pw h1).and h2).imp fun {a b} ⟨g1, g2⟩ => Bool.of_not_eq_false fun z => g2 (ltT_tot z g1)) (srtT_up xs)
theorem rps_strs {K : PySem.W.Frag} {F : Hp} : ∀ {xs : List Str}, Rps K F (xs.map V.str) (xs.map PyData.str)
  | [] => .nil
  | x :: xs => .cons (.str x) rps_strs
/-- sorted(set(xs)): rows of numbers, or texts -/
def mSS2 (m : MV) : MO := fun ρ => match m ρ with
  | some (.list ds, ρ) => match tupsD ds with
    | some nss => if tupsOk nss = true then some (.own true (.lst ((isort HT.lexLt (dedup nss)).map tupI)), ρ) else none
    | none => match strsD ds with
      | some xs => if xs.length < 64 then some (.own true (.lst ((srtT xs).map .str)), ρ) else none
      | none => none
  | _ => none
section
variable {Y : Fam}
theorem j_sortSet2 {e : Expr} {m : MV} {p p2 pos pos2 : Pos} (h : JV Y e m) (hm : Y.mg "sorted" = none) (hm2 : Y.mg "set" = none) (hg : ∀ j, Gl (Y.X j) "sorted" := by intro _; rfl) (hg2 : ∀ j, Gl (Y.X j) "set" := by intro _; rfl)
    (hs : ∀ j, starEach [e] (Y.X j).env = (false, eval e (Y.X j).env) :: starEach [] (Y.X j).env := by intro _; rfl) (hpl : ∀ j, (backTo pos2 (starEach [] (Y.X j).env)).any (·.1) = false := by intro _; rfl)
    (hs1 : ∀ j, starEach [.Call (.Name "set" p2) [e] [] pos2] (Y.X j).env = (false, eval (.Call (.Name "set" p2) [e] [] pos2) (Y.X j).env) :: starEach [] (Y.X j).env := by intro _; rfl) (hpl1 : ∀ j, (backTo pos (starEach [] (Y.X j).env)).any (·.1) = false := by intro _; rfl) :
    JO Y (.Call (.Name "sorted" p) [.Call (.Name "set" p2) [e] [] pos2] [] pos) (mSS2 m) := by
  obtain ⟨t1, p1, s1⟩ := j_sortSet (p := p) (p2 := p2) (pos := pos) (pos2 := pos2) h hm hm2 hg hg2 hs hpl hs1 hpl1
  obtain ⟨te, pe, se⟩ := h
  refine ⟨_, fun j => pe_or2 (t2 := tCB (rSortedStr Y.w) (tCons (tCB (rSetStr Y.K Y.w) (tCons te tNil)) tNil)) (p1 j) ?_, fun c σ ρ T H Q r q => ?_⟩
  · rw [← Y.hK j, ← Y.hw j]
    exact pe_callB (cr_sortedStr (Y.calm j)) (hg j) (by rw [Y.hmg j]; exact hm) (by decide +kernel) (pa_cons (pe_callTy (cr_setStr (Y.calm j)) (hg2 j) (by rw [Y.hmg j]; exact hm2) (by decide +kernel) (pa_cons (pe j) pa_nil (hs j)) (by decide) (by decide) (hs j) (hpl j)) pa_nil (hs1 j)) (by decide) (by decide) (hs1 j) (hpl1 j)
  · unfold mSS2 at q
    cases hm : m ρ with
    | none =>
      rw [hm] at q
      exact q.elim
    | some z =>
      obtain ⟨d, ρ1⟩ := z
      rw [hm] at q
      cases d with
      | list ds =>
        simp only at q
        split at q
        · rename_i nss hn
          refine .inl (s1 c σ ρ T H Q r ?_)
          unfold mSS
          rw [hm]
          simp only [hn]
          exact q
        · rename_i hn
          split at q
          · rename_i xs hx
            split at q
            · rename_i hl
              have := strsD_eq hx
              subst this
              refine .inr (se c σ ρ T H _ r ?_)
              rw [hm]
              intro v H1 r1
              obtain ⟨F, fp, f⟩ := id r1
              obtain ⟨l, us, rfl, h1, h2⟩ := f.top.lstAt
              have := h2.texts
              subst this
              refine ⟨l, xs, rfl, .inl (.inl (f.fh _ _ h1)), hl, fun a ha => ?_⟩
              refine ⟨a, xs, rfl, upd_same, hl, fun ys p' z1 z2 z3 hp' => ?_⟩
              have r2 := r1.fresh ha (SetSO Y.w a xs)
              obtain ⟨F', fp', f'⟩ := id r2
              rw [srtT_eq z1 z2 z3]
              exact q _ _ (f'.popV.lstNew hp' rps_strs)
            · exact q.elim
          · exact q.elim
      | _ => exact q.elim
/-- sep.join(xs) -/
def mJoin (m n : MV) : MV := fun ρ => match m ρ with
  | some (.str a, ρ) => match n ρ with
    | some (.list ds, ρ) => match strsD ds with
      | some xs => if (xs.map (·.length)).sum + xs.length * a.length ≤ 100000 then some (.str (Txt.join a xs), ρ) else none
      | none => none
    | _ => none
  | _ => none
theorem j_join {o e : Expr} {m n : MV} {apos pos : Pos} (ho : JV Y o m) (he : JV Y e n) (hs : ∀ j, starEach [e] (Y.X j).env = [(false, eval e (Y.X j).env)] := by intro _; rfl) (hbase : ∀ j, attributeBase o "join" (Y.X j).env (eval o (Y.X j).env) = eval o (Y.X j).env := by intro _; rfl) (hline : (apos.endLine == pos.line) = true := by rfl) :
    JV Y (.Call (.Attribute o "join" apos) [e] [] pos) (mJoin m n) := by
  obtain ⟨to, po, so⟩ := ho
  obtain ⟨te, pe, se⟩ := he
  refine ⟨_, fun j => by have := pe_join (po j) (pe j) (hs j) (hbase j) hline; rw [Y.hK j] at this; exact this, fun c σ ρ T H Q r q => ?_⟩
  refine so c σ ρ T H _ r ?_
  unfold mJoin at q
  cases hm : m ρ with
  | none =>
    rw [hm] at q
    exact q.elim
  | some z =>
    obtain ⟨d, ρ1⟩ := z
    rw [hm] at q
    cases d with
    | str a =>
      simp only at q
      intro v H1 r1
      have ev := r1.strTop
      subst ev
      refine ⟨⟨a, rfl⟩, se c σ ρ1 _ H1 _ r1 ?_⟩
      cases hn : n ρ1 with
      | none =>
        rw [hn] at q
        exact q.elim
      | some z =>
        obtain ⟨d, ρ2⟩ := z
        rw [hn] at q
        cases d with
        | list ds =>
          simp only at q
          split at q
          · rename_i xs hx
            split at q
            · rename_i hl
              have := strsD_eq hx
              subst this
              intro v2 H2 r2
              obtain ⟨F, fp, f⟩ := id r2
              obtain ⟨l, us, rfl, h1, h2⟩ := f.top.lstAt
              have := h2.texts
              subst this
              exact ⟨a, l, xs, rfl, rfl, .inl (.inl (.inl (f.fh _ _ h1))), by omega, q _ _ (r2.pop2.pushS _)⟩
            · exact q.elim
          · exact q.elim
        | _ => exact q.elim
    | _ => exact q.elim
end
end Fj

set_option Elab.async false
set_option linter.all false
set_option maxRecDepth 100000
set_option maxHeartbeats 4000000
set_option autoImplicit false
/-! x in D, D a dict of texts bound at the top. -/
namespace Fj
open PySem PySem.Spec PyProof.Rows L2
/-- at a: a dict of the module with just these texts as keys -/
def TabAt (K : PySem.W.Frag) (w : World) (a : Addr) (ks : List Str) : Prop := ∃ es n, KDict K w a es n ∧ ∀ z : Str, ∃ r, PySem.W.nsIn K a z = some r ∧ r.isSome = decide (z ∈ ks)
theorem keys_find {P : Params} : ∀ {l : List DictEntry} {ks : List Str}, l.map He.keyOf = He.keysIn P ks → (l.any (·.refKey)) = false ∧ ∀ z : Str, (l.find? (·.key.isStr z)).isSome = decide (z ∈ ks)
  | [], [], _ => ⟨rfl, fun z => rfl⟩
  | [], _ :: _, h => by cases h
  | e :: r, [], h => by cases h
  | e :: r, k :: ks, h => by
    have h1 : He.keyOf e :: r.map He.keyOf = some (k, PyData.keyHash P k) :: He.keysIn P ks := h
    injection h1 with h2 h3
    obtain ⟨a1, a2⟩ := keys_find h3
    unfold He.keyOf at h2
    split at h2
    · rename_i x t q
      obtain ⟨h5, h6⟩ := Prod.mk.inj (Option.some.inj h2)
      subst h5
      refine ⟨?_, fun z => ?_⟩
      · rw [List.any_cons, a1, Bool.or_false]
        unfold DictEntry.refKey
        rw [q]
      · rw [List.find?_cons, q]
        by_cases hz : z = x
        · subst hz
          simp [Value.isStr]
        · have : (Value.str x t).isStr z = false := by
            simp [Value.isStr]
            exact fun e => hz e.symm
          rw [this]
          simp only [List.mem_cons, hz, false_or]
          exact a2 z
    · cases h2
theorem tab_ok {K : PySem.W.Frag} {w : World} {a : Addr} {ks : List Str} (h : He.dicW K a = some (He.keysIn w.params ks)) : TabAt K w a ks := by
  obtain ⟨es, n, D⟩ := He.dicW_ok h
  refine ⟨es, n, D, fun z => ?_⟩
  have e : es.toList.map He.keyOf = He.keysIn w.params ks := by
    unfold He.dicW at h
    rw [D.at_] at h
    simp only at h
    split at h
    · exact Option.some.inj h
    · cases h
  obtain ⟨h1, h2⟩ := keys_find e
  unfold PySem.W.nsIn
  rw [D.at_]
  simp only
  cases hf : es.toList.find? (·.key.isStr z) with
  | some x =>
    have := h2 z
    rw [hf] at this
    exact ⟨_, rfl, this⟩
  | none =>
    have := h2 z
    rw [hf] at this
    simp only [h1]
    exact ⟨none, rfl, this⟩

/-- x in D -/
def mInTab (ks : List Str) (m : MV) : MV := fun ρ => match m ρ with
  | some (.str z, ρ) => some (.bool (decide (z ∈ ks)), ρ)
  | _ => none
section
variable {Y : Fam} {e : Expr} {pos : Pos}
theorem j_inTab {x : Str} {ks : List Str} {m : MV} {p : Pos} (D : ∃ a, Y.mg x = some (.ref a) ∧ TabAt Y.K Y.w a ks) (h : JV Y e m) (hg : ∀ j, Gl (Y.X j) x := by intro _; rfl) (hd : (x == ("__debug__" : Str)) = false := by decide)
    (hm : behindInMarks .In (.Name x p) = false := by first | exact nomark _ | rfl) : JV Y (.Compare e [.In] [.Name x p] pos) (mInTab ks m) := by
  obtain ⟨a, ha, es, n, kd, hns⟩ := D
  obtain ⟨t, pa, s⟩ := h
  refine ⟨tOp (fun x y H Q => ∃ (z : Str) (r : Option Value), x = .str z ∧ y = .ref a ∧ PySem.W.nsIn Y.K a z = some r ∧ Q (.bl r.isSome) H) t (tC (.ref a)), fun j => ?_, fun c σ ρ T H Q re q => ?_⟩
  · have kd' : KDict (Y.X j).K (Y.X j).w a es n := by
      rw [Y.hK j, Y.hw j]
      exact kd
    have := pe_cmpR (pos := pos) (op_in_kd kd') (pa j) (pe_glob (X := Y.X j) (pos := p) (v := .ref a) (hg j) (by rw [Y.hmg j]; exact ha) rfl hd) hm
    rw [Y.hK j] at this
    exact this
  · refine s c σ ρ T H _ re ?_
    unfold mInTab at q
    cases hm : m ρ with
    | none =>
      rw [hm] at q
      exact q.elim
    | some zz =>
      obtain ⟨d, ρ1⟩ := zz
      rw [hm] at q
      cases d with
      | str z =>
        intro v H1 r1
        have ev := r1.strTop
        subst ev
        obtain ⟨r, hr, hs⟩ := hns z
        refine ⟨z, r, rfl, rfl, hr, ?_⟩
        rw [hs]
        exact q _ _ (r1.pop.pushB _)
      | _ => exact q.elim
end
/-! the head, with such dicts -/
abbrev AlK : Type := AlC × List (Option (List (Option (Str × Int))))
def obsK (fa : List He.Fa) (fn : List He.DefD) (cs : List (Str × PyData)) (ts : List (Str × List Str)) (K : PySem.W.Frag) : AlK := (obsC fa fn cs K, ts.map fun t => He.dicW K (He.ga K t.1))
def valK (fn : List He.DefD) (ts : List (Str × List Str)) (w : World) : AlK := ((He.valD fn, true), ts.map fun t => some (He.keysIn w.params t.2))
def SaysK (fa : List He.Fa) (fn : List He.DefD) (cs : List (Str × PyData)) (ts : List (Str × List Str)) (w : World) (K : PySem.W.Frag) : Prop := obsK fa fn cs ts K = valK fn ts w
def obsKG (n : Nat) (fa : List He.Fa) (fn : List He.DefD) (cs : List (Str × PyData)) (ts : List (Str × List Str)) (g : Addr → Option Obj) : AlK := obsK fa fn cs ts (He.frG g (He.asD g n))
def hookK (n : Nat) (fa : List He.Fa) (fn : List He.DefD) (cs : List (Str × PyData)) (ts : List (Str × List Str)) : PySem.W.Hook where
  α := AlK
  obs := fun s => obsKG n fa fn cs ts s.heap.get?
  val := fun w => valK fn ts w
  says := fun w h => ∃ K : PySem.W.Frag, K.In h ∧ SaysK fa fn cs ts w K
  of := fun _ _ e => ⟨_, He.frG_in, e⟩
  keeps := fun _ _ _ ⟨K, hK, c⟩ k => ⟨K, PySem.W.Frag.In.keeps hK k, c⟩
theorem obsKG_eq {n : Nat} {fa : List He.Fa} {fn : List He.DefD} {cs : List (Str × PyData)} {ts : List (Str × List Str)} {g : Addr → Option Obj} {s : Shared} (h : ∀ a, g a = s.heap.get? a) : obsKG n fa fn cs ts g = (hookK n fa fn cs ts).obs s := by
  have e : g = s.heap.get? := funext h
  rw [e] <;> rfl
section
variable {fa : List He.Fa} {fn : List He.DefD} {cs : List (Str × PyData)} {ts : List (Str × List Str)} {w : World} {K : PySem.W.Frag}
theorem SaysK.c (c : SaysK fa fn cs ts w K) : SaysC fa fn cs K := congrArg (fun z : AlK => z.1) c
theorem SaysK.tab (c : SaysK fa fn cs ts w K) (i : Nat) {t : Str × List Str} (h : ts[i]? = some t := by rfl) : TabAt K w (He.ga K t.1) t.2 := by
  have e : ts.map (fun t => He.dicW K (He.ga K t.1)) = ts.map fun t => some (He.keysIn w.params t.2) := congrArg (fun z : AlK => z.2) c
  have e2 : (ts.map fun t => He.dicW K (He.ga K t.1))[i]? = (ts.map fun t => some (He.keysIn w.params t.2))[i]? := by rw [e]
  rw [List.getElem?_map, List.getElem?_map, h] at e2
  exact tab_ok (Option.some.inj e2)
end
end Fj

set_option Elab.async false
set_option linter.all false
set_option maxRecDepth 100000
set_option maxHeartbeats 4000000
set_option autoImplicit false
/-! Trees of own objects: places, writes. -/
namespace Fj
open PySem PySem.Spec PyProof.Rows L2

def Tr.get : Tr → List Nat → Option Tr
  | t, [] => some t
  | .node _ ts, k :: p => match ts[k]? with
    | some u => u.get p
    | none => none
  | .leaf _, _ :: _ => none
  | .gone _, _ :: _ => none
def Tr.put : Tr → List Nat → Tr → Tr
  | _, [], u => u
  | .node n ts, k :: p, u => match ts[k]? with
    | some t => .node n (ts.set k (t.put p u))
    | none => .node n ts
  | .leaf d, _ :: _, _ => .leaf d
  | .gone k, _ :: _, _ => .gone k
/-- the place p of what stands at v is w -/
def AtP (K : PySem.W.Frag) (H : Hp) : V → List Nat → V → Prop
  | v, [], w => v = w
  | v, k :: p, w => ∃ (a : Addr) (n : Nd) (vs : List V) (xs : List Addr) (u : V), v = .ref a ∧ NodeAt K H a n vs xs ∧ vs[k]? = some u ∧ AtP K H u p w
section
variable {K : PySem.W.Frag} {G : Nat → Option V} {F F' H H' : Hp}
theorem zip_snd {α β : Type} : ∀ {ks : List α} {vs : List β}, ks.length = vs.length → (ks.zip vs).map (·.2) = vs
  | [], [], _ => rfl
  | [], _ :: _, h => by cases h
  | _ :: _, [], h => by cases h
  | k :: ks, v :: vs, h => by
    exact congrArg (List.cons v) (zip_snd (Nat.succ.inj h))
theorem NodeAt.vals {a : Addr} {n n' : Nd} {vs vs' : List V} {xs xs' : List Addr} (h : NodeAt K H a n vs xs) (g : NodeAt K H a n' vs' xs') : vs = vs' := by
  cases h with
  | lst h =>
    cases g with
    | lst g =>
      rw [h] at g
      cases g
      rfl
    | dct g l _ =>
      rw [h] at g
      cases g
    | obj g l z =>
      rw [h] at g
      cases g
  | dct h l _ =>
    cases g with
    | lst g =>
      rw [h] at g
      cases g
    | dct g l' _ =>
      rw [h] at g
      have e := congrArg (List.map (·.2)) (HO.dK.inj (Option.some.inj g))
      rwa [zip_snd l, zip_snd l'] at e
    | obj g l z =>
      rw [h] at g
      cases g
  | obj h l z =>
    cases g with
    | lst g =>
      rw [h] at g
      cases g
    | dct g l _ =>
      rw [h] at g
      cases g
    | obj g l' z =>
      rw [h] at g
      have e := congrArg (List.map (·.2)) (HO.ins.inj (Option.some.inj g)).2.2
      rwa [zip_snd l, zip_snd l'] at e
theorem AtP.uniq : ∀ {p : List Nat} {v w w' : V}, AtP K H v p w → AtP K H v p w' → w = w'
  | [], _, _, _, h, g => Eq.trans (Eq.symm h) g
  | k :: p, _, _, _, h, g => by
    obtain ⟨a, n, vs, xs, u, e, hn, hk, h⟩ := h
    obtain ⟨a', n', vs', xs', u', e', hn', hk', g⟩ := g
    rw [e] at e'
    cases e'
    have z := hn.vals hn'
    subst z
    rw [hk] at hk'
    cases hk'
    exact AtP.uniq h g
theorem TrsAt.length : ∀ {ts : List Tr} {vs : List V} {fc : List Addr}, TrsAt K G F H vs ts fc → vs.length = ts.length
  | [], _, _, h => by
    cases h
    rfl
  | _ :: _, _, _, h => by
    cases h with
    | cons h r => exact congrArg Nat.succ (TrsAt.length r)
/-- one of some trees -/
theorem TrsAt.place : ∀ {ts : List Tr} {vs : List V} {fc : List Addr} {k : Nat} {t : Tr}, TrsAt K G F H vs ts fc → ts[k]? = some t → ∃ (v : V) (f1 f f2 : List Addr), vs[k]? = some v ∧ fc = f1 ++ (f ++ f2) ∧ TrAt K G F H v t f ∧
    ∀ (F' H' : Hp) (v' : V) (u : Tr) (g : List Addr), Same F F' → (∀ a, a ∈ f1 ∨ a ∈ f2 → H' a = H a) → TrAt K G F' H' v' u g → TrsAt K G F' H' (vs.set k v') (ts.set k u) (f1 ++ (g ++ f2))
  | [], _, _, k, t, h, e => by simp at e
  | t0 :: ts, _, _, 0, t, h, e => by
    cases h with
    | @cons v _ vs _ f g h r =>
      have e : t0 = t := Option.some.inj e
      subst e
      refine ⟨v, [], f, g, rfl, rfl, h, fun F' H' v' u g' sm k hu => ?_⟩
      show TrsAt K G F' H' (v' :: vs) (u :: ts) (g' ++ g)
      exact .cons hu (r.stay sm fun a ha => k a (.inr ha))
  | t0 :: ts, _, _, k + 1, t, h, e => by
    cases h with
    | @cons v _ vs _ f g h r =>
      obtain ⟨w, f1, fm, f2, e1, rfl, hw, q⟩ := TrsAt.place r (k := k) (t := t) e
      refine ⟨w, f ++ f1, fm, f2, e1, by rw [List.append_assoc], hw, fun F' H' v' u g' sm k' hu => ?_⟩
      have z := q F' H' v' u g' sm (fun a ha => k' a (ha.elim (fun z => .inl (List.mem_append_right _ z)) .inr)) hu
      have z2 := TrsAt.cons (TrAt.stay sm h fun a ha => k' a (.inl (List.mem_append_left _ ha))) z
      rw [← List.append_assoc] at z2
      exact z2
theorem set_same {α : Type} {l : List α} {k : Nat} {x : α} (h : l[k]? = some x) : l.set k x = l := by
  refine List.ext_getElem? fun j => ?_
  by_cases hj : k = j
  · subst hj
    rw [List.getElem?_set_self (List.getElem?_eq_some_iff.mp h).1, h]
  · rw [List.getElem?_set_ne hj]
/-- one place of a tree -/
theorem TrAt.focus : ∀ {p : List Nat} {t t' : Tr} {v : V} {fc : List Addr}, TrAt K G F H v t fc → t.get p = some t' → ∃ (w : V) (f1 f f2 : List Addr), fc = f1 ++ (f ++ f2) ∧ TrAt K G F H w t' f ∧ AtP K H v p w ∧
    ∀ (F' H' : Hp) (u : Tr) (g : List Addr), Same F F' → (∀ a, a ∈ f1 ∨ a ∈ f2 → H' a = H a) → TrAt K G F' H' w u g → TrAt K G F' H' v (t.put p u) (f1 ++ (g ++ f2))
  | [], t, t', v, fc, h, e => by
    have e : t = t' := by
      unfold Tr.get at e
      exact Option.some.inj e
    subst e
    refine ⟨v, [], fc, [], by simp, h, rfl, fun F' H' u g sm k hu => ?_⟩
    unfold Tr.put
    simpa using hu
  | k :: p, .leaf _, t', v, fc, h, e => by
    unfold Tr.get at e
    cases e
  | k :: p, .gone _, t', v, fc, h, e => by
    unfold Tr.get at e
    cases e
  | k :: p, .node n ts, t', v, fc, h, e => by
    unfold Tr.get at e
    cases hk : ts[k]? with
    | none =>
      rw [hk] at e
      cases e
    | some t1 =>
      rw [hk] at e
      cases h with
      | @node a _ vs _ xs fc hn ht =>
        obtain ⟨w1, f1, f, f2, e1, rfl, h1, q1⟩ := ht.place hk
        obtain ⟨w, g1, g, g2, rfl, h2, hp, q2⟩ := TrAt.focus h1 e
        refine ⟨w, xs ++ (f1 ++ g1), g, g2 ++ f2, by simp, h2, ⟨a, n, vs, xs, w1, rfl, hn, e1, hp⟩, fun F' H' u g' sm kk hu => ?_⟩
        have z1 := q2 F' H' u g' sm (fun b hb => kk b (hb.elim (fun z => .inl (by simp [z])) fun z => .inr (by simp [z]))) hu
        have z2 := q1 F' H' w1 _ _ sm (fun b hb => kk b (hb.elim (fun z => .inl (by simp [z])) fun z => .inr (by simp [z]))) z1
        rw [set_same e1] at z2
        have hn' : NodeAt K H' a n vs xs := hn.stay fun b hb => kk b (.inl (by simp [hb]))
        have z3 := TrAt.node hn' z2
        unfold Tr.put
        rw [hk]
        simpa using z3
end

/-! ### what is put into a tree -/
def leaves : List PyData → List Tr := fun ds => ds.map .leaf
def entTr : Ent → Option Tr
  | .val d => some (.leaf d)
  | .own true (.tr t) => some t
  | .own true (.lst ds) => some (.node .lst (leaves ds))
  | _ => none
section
variable {K : PySem.W.Frag} {G : Nat → Option V} {c : Ct} {σ : L2.St} {ρ : En} {T : Tm} {F F' H H' : Hp}
theorem trs_leaves {vs : List V} {ds : List PyData} (r : Rps K F vs ds) : TrsAt K G F H vs (leaves ds) [] := by
  unfold leaves
  induction ds generalizing vs with
  | nil =>
    cases r
    exact .nil
  | cons d ds ih =>
    cases r with
    | cons r t => exact TrsAt.cons (f := []) (g := []) (.leaf r) (ih t)
theorem SlotOk.toTr {v : V} {e : Ent} {u : Tr} {fe : List Addr} (h : SlotOk K c F H (some v, e) fe) (he : entTr e = some u) : TrAt K c.gn F H v u fe ∧ ∀ a ∈ fe, c.H0 a = none := by
  unfold entTr at he
  split at he
  · cases he
    cases h with
    | val r => exact ⟨.leaf r, fun a ha => (List.not_mem_nil ha).elim⟩
  · cases he
    cases h with
    | own r h =>
      cases r with
      | tr r => exact ⟨r, h rfl⟩
  · cases he
    cases h with
    | own r h =>
      cases r with
      | @lst a vs ds ha r =>
        have z := TrAt.node (K := K) (G := c.gn) (F := F) (NodeAt.lst ha) (trs_leaves (H := H) r)
        exact ⟨z, h rfl⟩
  · cases he
/-- a tree on top, and what is put into it below: one object of it is written -/
theorem Rel.treeWrite {v vx : V} {e : Ent} {fr : Bool} {t u : Tr} {p : List Nat} {n : Nd} {ts : List Tr} (r : Rel K c σ ρ ((v, .own fr (.tr t)) :: (vx, e) :: T) H) (he : entTr e = some u) (hg : t.get p = some (.node n ts)) :
    ∃ (a : Addr) (vs : List V) (xs : List Addr), AtP K H v p (.ref a) ∧ NodeAt K H a n vs xs ∧ vs.length = ts.length ∧ a ∈ xs ∧
      ∀ (o : HO) (n' : Nd) (vs' : List V) (ts' : List Tr), NodeAt K (upd H a o) a n' vs' xs →
        (∀ (F : Hp) (f fe : List Addr), TrsAt K c.gn F (upd H a o) vs ts f → TrAt K c.gn F (upd H a o) vx u fe → ∃ f' g : List Addr, f'.Perm g ∧ g.Sublist (fe ++ f) ∧ TrsAt K c.gn F (upd H a o) vs' ts' f') →
        Rel K c σ ρ ((v, .own fr (.tr (t.put p (.node n' ts')))) :: T) (upd H a o) := by
  obtain ⟨F, fp, r⟩ := r
  obtain ⟨fv, fq, rfl, sv, r1⟩ := r.pop
  obtain ⟨fe, fT, rfl, se, r2⟩ := r1.pop
  cases sv with
  | own rc hfr =>
    cases rc with
    | tr ht =>
      obtain ⟨w, f1, f, f2, rfl, hw, hp, q⟩ := ht.focus hg
      cases hw with
      | @node a _ vs _ xs f hn hts =>
        have hax : a ∈ xs := by
          cases hn <;> simp
        refine ⟨a, vs, xs, hp, hn, hts.length, hax, fun o n' vs' ts' hn' hq => ?_⟩
        have hown := r.own a (by simp [hax])
        have nd := r.nd
        obtain ⟨hu, hu0⟩ := se.toTr he
        have hne : ∀ b, b ∈ f1 ++ ((xs ++ f) ++ f2) ++ (fe ++ fT) → b ∉ xs → b ≠ a := fun b _ hb z => hb (z ▸ hax)
        have ndx : (f1 ++ (xs ++ (f ++ (f2 ++ (fe ++ fT))))).Nodup := by simpa using nd
        have d1 := List.nodup_append.mp ndx
        have d2 := List.nodup_append.mp d1.2.1
        have nf1 : ∀ b ∈ f1, b ≠ a := fun b hb z => d1.2.2 b hb a (by simp [hax]) z
        have nrest : ∀ b, b ∈ f ++ (f2 ++ (fe ++ fT)) → b ≠ a := fun b hb z => d2.2.2 a hax b hb z.symm
        have keepH : ∀ b, b ≠ a → upd H a o b = H b := fun b hb => upd_ne hb
        have sm : Same F F := fun _ _ z => z
        have hts' : TrsAt K c.gn F (upd H a o) vs ts f := hts.stay sm fun b hb => keepH b (nrest b (by simp [hb]))
        have hu' : TrAt K c.gn F (upd H a o) vx u fe := TrAt.stay sm hu fun b hb => keepH b (nrest b (by simp [hb]))
        obtain ⟨f', g, pm, sub, hf'⟩ := hq F f fe hts' hu'
        have z := q F (upd H a o) (.node n' ts') (xs ++ f') sm (fun b hb => keepH b (hb.elim (nf1 b) fun z => nrest b (by simp [z]))) (.node hn' hf')
        have mem : ∀ b, b ∈ f' → b ∈ fe ++ f := fun b hb => sub.mem (pm.mem_iff.mp hb)
        have ndn : ((f1 ++ ((xs ++ f') ++ f2)) ++ fT).Nodup := by
          have p1 : ((f1 ++ ((xs ++ f') ++ f2)) ++ fT).Perm (f' ++ (f1 ++ (xs ++ (f2 ++ fT)))) := by
            have : ((f1 ++ ((xs ++ f') ++ f2)) ++ fT) = (f1 ++ xs) ++ (f' ++ (f2 ++ fT)) := by simp
            rw [this]
            have : f' ++ (f1 ++ (xs ++ (f2 ++ fT))) = f' ++ ((f1 ++ xs) ++ (f2 ++ fT)) := by simp
            rw [this, ← List.append_assoc, ← List.append_assoc f']
            exact List.Perm.append_right _ List.perm_append_comm
          have p2 : (f' ++ (f1 ++ (xs ++ (f2 ++ fT)))).Perm (g ++ (f1 ++ (xs ++ (f2 ++ fT)))) := List.Perm.append_right _ pm
          have s3 : (g ++ (f1 ++ (xs ++ (f2 ++ fT)))).Sublist ((fe ++ f) ++ (f1 ++ (xs ++ (f2 ++ fT)))) := List.Sublist.append_right sub _
          have p4 : ((fe ++ f) ++ (f1 ++ (xs ++ (f2 ++ fT)))).Perm ((f1 ++ ((xs ++ f) ++ f2)) ++ (fe ++ fT)) := by
            have a1 : ((fe ++ f) ++ (f1 ++ (xs ++ (f2 ++ fT)))).Perm ((f1 ++ xs) ++ ((fe ++ f) ++ (f2 ++ fT))) := by
              have : ((fe ++ f) ++ (f1 ++ (xs ++ (f2 ++ fT)))) = (fe ++ f) ++ (f1 ++ xs) ++ (f2 ++ fT) := by simp
              rw [this, ← List.append_assoc (f1 ++ xs)]
              exact List.Perm.append_right _ List.perm_append_comm
            have a2 : ((fe ++ f) ++ (f2 ++ fT)).Perm ((f ++ f2) ++ (fe ++ fT)) := by
              have b1 : ((fe ++ f) ++ (f2 ++ fT)) = (fe ++ (f ++ f2)) ++ fT := by simp
              have b2 : ((f ++ f2) ++ (fe ++ fT)) = ((f ++ f2) ++ fe) ++ fT := by simp
              rw [b1, b2]
              exact List.Perm.append_right _ List.perm_append_comm
            have a3 : (f1 ++ ((xs ++ f) ++ f2)) ++ (fe ++ fT) = (f1 ++ xs) ++ ((f ++ f2) ++ (fe ++ fT)) := by simp
            rw [a3]
            exact a1.trans (List.Perm.append_left _ a2)
          exact (p1.trans p2).nodup_iff.mpr ((p4.nodup_iff.mpr nd).sublist s3)
        refine ⟨F, (f1 ++ ((xs ++ f') ++ f2)) ++ fT, r.f0, fun b w y => ?_, r.new, fun b w y nw => ?_, fun b y => ?_, .cons (.own (.tr z) fun hb b hb2 => ?_) (r2.sl.stay sm fun b hb => keepH b (nrest b (by simp [hb]))), ndn, fun b hb => ?_, r.len, r.pin⟩
        · rw [keepH b (ne_of_none y hown.1)]
          exact r.fh b w y
        · have y2 := r.keep b w y nw
          by_cases hb : b = a
          · subst hb
            rcases hown.2 with k | k
            · exact absurd k nw
            · rw [k] at y
              cases y
          · rw [keepH b hb]
            exact y2
        · intro y2
          by_cases hb : b = a
          · rw [hb, upd_same] at y2
            cases y2
          · rw [keepH b hb] at y2
            exact r.trk b y y2
        · simp only [List.mem_append] at hb2
          rcases hb2 with y | (y | y) | y
          · exact hfr hb b (by simp [y])
          · exact hfr hb b (by simp [y])
          · rcases List.mem_append.mp (mem b y) with y | y
            · exact hu0 b y
            · exact hfr hb b (by simp [y])
          · exact hfr hb b (by simp [y])
        · refine r.own b ?_
          simp only [List.mem_append] at hb ⊢
          rcases hb with (y | (y | y) | y) | y
          · exact .inl (.inl y)
          · exact .inl (.inr (.inl (.inl y)))
          · rcases List.mem_append.mp (mem b y) with y | y
            · exact .inr (.inl y)
            · exact .inl (.inr (.inl (.inr y)))
          · exact .inl (.inr (.inr y))
          · exact .inr (.inr y)
end
end Fj

set_option Elab.async false
set_option linter.all false
set_option maxRecDepth 100000
set_option maxHeartbeats 4000000
set_option autoImplicit false
/-! Statements that write trees. -/
namespace Fj
open PySem PySem.Spec PyProof.Rows L2
section
variable {K : PySem.W.Frag} {G : Nat → Option V} {c : Ct} {σ : L2.St} {ρ : En} {T : Tm} {F F' H H' : Hp}
theorem Rel.slotWrite {i : Nat} {vx : V} {e : Ent} {fr : Bool} {t u : Tr} {p : List Nat} {n : Nd} {ts : List Tr} (r : Rel K c σ ρ ((vx, e) :: T) H) (hi : ρ[i]? = some (.own fr (.tr t))) (he : entTr e = some u) (hg : t.get p = some (.node n ts)) :
    ∃ (v : V) (a : Addr) (vs : List V) (xs : List Addr), σ[i]? = some (some v) ∧ AtP K H v p (.ref a) ∧ NodeAt K H a n vs xs ∧ vs.length = ts.length ∧
      ∀ (o : HO) (n' : Nd) (vs' : List V) (ts' : List Tr), NodeAt K (upd H a o) a n' vs' xs →
        (∀ (F : Hp) (f fe : List Addr), TrsAt K c.gn F (upd H a o) vs ts f → TrAt K c.gn F (upd H a o) vx u fe → ∃ f' g : List Addr, f'.Perm g ∧ g.Sublist (fe ++ f) ∧ TrsAt K c.gn F (upd H a o) vs' ts' f') →
        Rel K c σ (ρ.set i (.own fr (.tr (t.put p (.node n' ts'))))) T (upd H a o) := by
  obtain ⟨v, hv⟩ := r.ownv hi
  obtain ⟨a, vs, xs, h1, h2, h3, h4, q⟩ := (r.take hv hi).treeWrite he hg
  refine ⟨v, a, vs, xs, hv, h1, h2, h3, fun o n' vs' ts' hn hq => ?_⟩
  have r2 := (q o n' vs' ts' hn hq).back hv fun w z => by
    have := r.pinned z hi
    cases fr with
    | true => cases this
    | false => rfl
  rwa [List.set_set] at r2
theorem TrsAt.app : ∀ {ts : List Tr} {vs : List V} {f : List Addr} {us : List Tr} {ws : List V} {g : List Addr}, TrsAt K G F H vs ts f → TrsAt K G F H ws us g → TrsAt K G F H (vs ++ ws) (ts ++ us) (f ++ g)
  | [], _, _, us, ws, g, h, k => by
    cases h
    exact k
  | t :: ts, _, _, us, ws, g, h, k => by
    cases h with
    | cons h r =>
      have z := TrsAt.cons h (TrsAt.app r k)
      rw [← List.append_assoc] at z
      exact z
theorem TrsAt.snoc {ts : List Tr} {vs : List V} {f : List Addr} {v : V} {u : Tr} {fe : List Addr} (h : TrsAt K G F H vs ts f) (k : TrAt K G F H v u fe) : ∃ f' g : List Addr, f'.Perm g ∧ g.Sublist (fe ++ f) ∧ TrsAt K G F H (vs ++ [v]) (ts ++ [u]) f' := by
  have z := h.app (TrsAt.cons k .nil)
  rw [List.append_nil] at z
  exact ⟨_, _, List.perm_append_comm, List.Sublist.refl _, z⟩
theorem TrsAt.setAt {ts : List Tr} {vs : List V} {f : List Addr} {v : V} {u : Tr} {fe : List Addr} {j : Nat} (h : TrsAt K G F H vs ts f) (k : TrAt K G F H v u fe) (hj : j < ts.length) : ∃ f' g : List Addr, f'.Perm g ∧ g.Sublist (fe ++ f) ∧ TrsAt K G F H (vs.set j v) (ts.set j u) f' := by
  obtain ⟨w, f1, fm, f2, _, rfl, _, q⟩ := h.place (List.getElem?_eq_getElem hj)
  refine ⟨_, fe ++ (f1 ++ f2), ?_, ?_, q F H v u fe (fun _ _ z => z) (fun _ _ => rfl) k⟩
  · rw [← List.append_assoc, ← List.append_assoc]
    exact List.Perm.append_right _ List.perm_append_comm
  · exact List.Sublist.append_left (List.Sublist.append_left (List.sublist_append_right _ _) _) _
end
/-- the place of a key -/
def keyIx : List Key → Key → Option Nat
  | [], _ => none
  | x :: ks, k => if x = k then some 0 else (keyIx ks k).map (· + 1)
theorem keyIx_cons {x k : Key} {ks : List Key} : keyIx (x :: ks) k = if x = k then some 0 else (keyIx ks k).map (· + 1) := rfl
theorem keyIx_lt : ∀ {ks : List Key} {k : Key} {j : Nat}, keyIx ks k = some j → j < ks.length ∧ ks[j]? = some k
  | [], _, _, h => by cases h
  | x :: ks, k, j, h => by
    unfold keyIx at h
    split at h
    · rename_i e
      cases h
      exact ⟨Nat.zero_lt_succ _, by rw [e]; rfl⟩
    · cases hk : keyIx ks k with
      | none =>
        rw [hk] at h
        cases h
      | some i =>
        rw [hk] at h
        cases h
        obtain ⟨h1, h2⟩ := keyIx_lt hk
        exact ⟨Nat.succ_lt_succ h1, h2⟩
theorem keyIx_mem : ∀ {ks : List Key} {k : Key}, keyIx ks k = none ↔ k ∉ ks
  | [], k => by simp [keyIx]
  | x :: ks, k => by
    unfold keyIx
    by_cases e : x = k
    · simp [e]
    · rw [if_neg e, Option.map_eq_none_iff, keyIx_mem, List.mem_cons, not_or]
      exact ⟨fun h => ⟨fun z => e z.symm, h⟩, fun h => h.2⟩
theorem any_zip {ks : List Key} {vs : List V} (l : ks.length = vs.length) (k : Key) : ((ks.zip vs).any fun kv => decide (kv.1 = k)) = true ↔ k ∈ ks := by
  induction ks generalizing vs with
  | nil => simp
  | cons x ks ih =>
    cases vs with
    | nil => cases l
    | cons v vs =>
      rw [List.zip_cons_cons, List.any_cons, Bool.or_eq_true, ih (Nat.succ.inj l), List.mem_cons]
      exact or_congr_left (decide_eq_true_iff.trans eq_comm)
theorem map_zip {ks : List Key} {vs : List V} (l : ks.length = vs.length) (nd : ks.Nodup) {k : Key} (v : V) : (ks.zip vs).map (fun kv => if kv.1 = k then (kv.1, v) else kv) = match keyIx ks k with
    | some j => ks.zip (vs.set j v)
    | none => ks.zip vs := by
  induction ks generalizing vs with
  | nil => rfl
  | cons x ks ih =>
    cases vs with
    | nil => cases l
    | cons w vs =>
      have h1 := List.nodup_cons.mp nd
      have ih := ih (Nat.succ.inj l) h1.2
      rw [List.zip_cons_cons, List.map_cons, ih, keyIx_cons]
      by_cases e : x = k
      · have : keyIx ks k = none := keyIx_mem.mpr (e ▸ h1.1)
        rw [this]
        simp only [e, if_true]
        rfl
      · rw [if_neg e, if_neg e]
        cases hk : keyIx ks k with
        | none => rfl
        | some j => rfl
theorem zip_snoc {α β : Type} : ∀ {ks : List α} {vs : List β} (k : α) (v : β), ks.length = vs.length → (ks ++ [k]).zip (vs ++ [v]) = ks.zip vs ++ [(k, v)]
  | [], [], _, _, _ => rfl
  | [], _ :: _, _, _, h => by cases h
  | _ :: _, [], _, _, h => by cases h
  | x :: ks, w :: vs, k, v, h => congrArg (List.cons (x, w)) (zip_snoc k v (Nat.succ.inj h))
theorem putK_zip {ks : List Key} {vs : List V} (l : ks.length = vs.length) (nd : ks.Nodup) (k : Key) (v : V) : putK (ks.zip vs) k v = match keyIx ks k with
    | some j => ks.zip (vs.set j v)
    | none => (ks ++ [k]).zip (vs ++ [v]) := by
  unfold putK
  rw [map_zip l nd, zip_snoc k v l]
  cases hk : keyIx ks k with
  | none => rw [if_neg fun z => keyIx_mem.mp hk ((any_zip l k).mp z)]
  | some j =>
    have : k ∈ ks := Classical.byContradiction fun z => by
      rw [keyIx_mem.mpr z] at hk
      cases hk
    rw [if_pos ((any_zip l k).mpr this)]
/-- a dict with one key put -/
def dPut (ks : List Key) (ts : List Tr) (k : Key) (u : Tr) : Tr := match keyIx ks k with
  | some j => .node (.dct ks) (ts.set j u)
  | none => .node (.dct (ks ++ [k])) (ts ++ [u])
/-! ### {} -/
def mTrD : MO := fun ρ => some (.own true (.tr (.node (.dct []) [])), ρ)
section
variable {Y : Fam} {e : Expr} {pos : Pos}
theorem j_trD : JO Y (.Dict [] [] pos) mTrD := by
  refine ⟨tDNewK, fun _ => pe_dnewK, fun c σ ρ T H Q r q p hp => ?_⟩
  obtain ⟨F, fp, f⟩ := r
  refine q _ _ (f.cellNew hp (.tr ?_))
  have z := TrAt.node (K := Y.K) (G := c.gn) (F := F) (NodeAt.dct (K := Y.K) (ks := []) (vs := []) (a := p) (H := upd H p (.dK [])) upd_same rfl .nil) TrsAt.nil
  exact z
/-- x[k] = v, x a tree in a slot -/
def trPutE (i : Nat) (e : Ent) (kd : PyData) (ρ : En) : Option En := match keyOf kd, entTr e, ρ[i]? with
  | some k, some u, some (.own fr (.tr (.node (.dct ks) ts))) => if ts.length < 100000 then some (ρ.set i (.own fr (.tr (dPut ks ts k u)))) else none
  | _, _, _ => none
def mTrPut (i : Nat) (m : MO) (n : MV) : MS := fun ρ => match m ρ with
  | none => none
  | some (e, ρ) => match ρ[i]? with
    | some (.own _ (.tr _)) => match n ρ with
      | none => none
      | some (kd, ρ) => (trPutE i e kd ρ).map .nx
    | _ => none
theorem s_trPut (i : Nat) {x : Str} {p pos' : Pos} {value k : Expr} {m : MO} {n : MV} (h : JO Y value m) (g : JV Y k n) (hN : ∀ j, (Y.X j).N[i]? = some x := by intro _; rfl) (hv : ∀ j, Vis (Y.X j).env.scope x := by first | exact fun _ => Or.inl rfl | exact fun _ => Or.inr (Or.inl rfl) | exact fun _ => Or.inr (Or.inr rfl)) (hd : (x == ("__debug__" : Str)) = false := by decide) (hcd : (x == ("__classdict__" : Str)) = false := by decide)
    (hs : ∀ j, swapsWith value (some (.Subscript (.Name x p) k pos')) pos.line (Y.X j).env = pure false := by intro _; rfl) : JS Y (.Assign [.Subscript (.Name x p) k pos'] value pos) (mTrPut i m n) := by
  obtain ⟨t, pe, s⟩ := h
  obtain ⟨t2, pk, s2⟩ := g
  refine ⟨sDPut (tVar i) t2 t, fun j => ps_dput (units1 (Y.room j)) (pe_var (hN j) (hv j) hd hcd) (pk j) (pe j) (hs j), fun c σ ρ T H D r q => s c σ ρ T H _ r ?_⟩
  unfold mTrPut at q
  cases hm : m ρ with
  | none =>
    rw [hm] at q
    exact q
  | some z =>
    obtain ⟨e, ρ1⟩ := z
    rw [hm] at q
    intro v0 H1 r1
    simp only at q
    split at q
    · rename_i fr0 t0 he0
      obtain ⟨v, hv⟩ := r1.ownv he0
      refine ⟨v, hv, s2 c σ ρ1 _ H1 _ r1 ?_⟩
      cases hn : n ρ1 with
      | none =>
        rw [hn] at q
        exact q
      | some z =>
        obtain ⟨kd, ρ2⟩ := z
        rw [hn] at q
        intro y H2 r2
        simp only at q
        cases ht : trPutE i e kd ρ2 with
        | none =>
          rw [ht] at q
          exact q.elim
        | some ρ3 =>
          rw [ht] at q
          unfold trPutE at ht
          split at ht
          · rename_i k' u fr ks ts hk hu hi
            split at ht
            · rename_i hl
              cases ht
              have ek := keyOf_eq hk
              subst ek
              have ey : y = kV k' := (r2.top).key
              subst ey
              obtain ⟨w, a, vs, xs, hw, hp, hnode, hlen, wr⟩ := r2.pop.slotWrite (p := []) hi hu (by unfold Tr.get; rfl)
              rw [hv] at hw
              cases hw
              cases hp
              cases hnode with
              | dct hH hl2 hnd =>
                refine ⟨a, _, rfl, DPut.k hH (by rw [List.length_zip, hl2, Nat.min_self, hlen]; exact sz5l hl), q _ _ ?_⟩
                rw [putK_zip hl2 hnd]
                unfold dPut
                cases hix : keyIx ks k' with
                | some j =>
                  exact wr _ (.dct ks) (vs.set j v0) (ts.set j u) (.dct upd_same (by rw [List.length_set]; exact hl2) hnd) fun F f fe h1 h2 => h1.setAt h2 (by rw [← hlen, ← hl2]; exact (keyIx_lt hix).1)
                | none =>
                  exact wr _ (.dct (ks ++ [k'])) (vs ++ [v0]) (ts ++ [u]) (.dct upd_same (by simp [hl2]) (List.nodup_append.mpr ⟨hnd, by simp, fun x hx y hy z => keyIx_mem.mp hix (by rw [List.mem_singleton] at hy; rw [← hy, ← z]; exact hx)⟩)) fun F f fe h1 h2 => h1.snoc h2
            · cases ht
          · cases ht
    · exact q.elim
end
end Fj

set_option Elab.async false
set_option linter.all false
set_option maxRecDepth 100000
set_option maxHeartbeats 4000000
set_option autoImplicit false
/-! row = d.setdefault(k, []); row.append(x). -/
namespace Fj
open PySem PySem.Spec PyProof.Rows L2
section
variable {K : PySem.W.Frag} {c : Ct} {σ : L2.St} {ρ : En} {T : Tm} {H : Hp}
theorem Rel.pushNo (r : Rel K c σ ρ T H) (v : V) : Rel K c σ ρ ((v, .no) :: T) H := by
  obtain ⟨F, fp, r⟩ := r
  exact ⟨F, [] ++ fp, r.f0, r.fh, r.new, r.keep, r.trk, .cons (.no _) r.sl, r.nd, r.own, r.len, r.pin⟩
/-- a slot is given up -/
theorem Rel.putNo (r : Rel K c σ ρ T H) {j : Nat} (v : V) (hf : freeE ρ j = true) : Rel K c (σ.set j (some v)) (ρ.set j .no) T H := (r.pushNo v).put hf
theorem TrsAt.get {G : Nat → Option V} {F : Hp} {ts : List Tr} {vs : List V} {f : List Addr} {k : Nat} {t : Tr} (h : TrsAt K G F H vs ts f) (e : ts[k]? = some t) : ∃ v fv, vs[k]? = some v ∧ TrAt K G F H v t fv := by
  obtain ⟨v, _, f, _, h1, _, h2, _⟩ := h.place e
  exact ⟨v, f, h1, h2⟩
/-- the tree in a slot, at its root -/
theorem Rel.root {i : Nat} {fr : Bool} {n : Nd} {ts : List Tr} (r : Rel K c σ ρ T H) (hi : ρ[i]? = some (.own fr (.tr (.node n ts)))) : ∃ (a : Addr) (vs : List V) (xs : List Addr) (F : Hp) (f : List Addr), σ[i]? = some (some (.ref a)) ∧ NodeAt K H a n vs xs ∧ TrsAt K c.gn F H vs ts f ∧ Same F H := by
  obtain ⟨v, hv⟩ := r.ownv hi
  obtain ⟨F, fp, r1⟩ := r.take hv hi
  obtain ⟨fc, fq, _, sv, _⟩ := r1.pop
  cases sv with
  | own rc hfr =>
    cases rc with
    | tr ht =>
      cases ht with
      | @node a _ vs _ xs f hn hts => exact ⟨a, vs, xs, F, f, hv, hn, hts, r1.fh⟩
end
theorem valV_zip {ks : List Key} {vs : List V} (l : ks.length = vs.length) (k : Key) : valV (ks.zip vs) k = match keyIx ks k with
    | some j => vs[j]?
    | none => none := by
  induction ks generalizing vs with
  | nil => rfl
  | cons x ks ih =>
    cases vs with
    | nil => cases l
    | cons v vs =>
      rw [List.zip_cons_cons, keyIx_cons]
      by_cases e : x = k
      · rw [if_pos e, valV_pos e]
        rfl
      · rw [if_neg e, valV_neg e, ih (Nat.succ.inj l)]
        cases keyIx ks k <;> rfl
section
variable {K : PySem.W.Frag} {c : Ct} {σ : L2.St} {ρ : En} {T : Tm} {H : Hp}
/-- an owned new tree becomes data -/
theorem Rel.freezeT {v : V} {t : Tr} {d : PyData} (r : Rel K c σ ρ ((v, .own true (.tr t)) :: T) H) (hd : t.dat = some d) : Rel K c σ ρ ((v, .val d) :: T) H := by
  obtain ⟨F, fp, r⟩ := r
  obtain ⟨fc, fq, rfl, h, q⟩ := r.pop
  cases h with
  | own rc hf =>
    cases rc with
    | tr ht =>
      let F' : Hp := fun b => if b ∈ fc then H b else F b
      have F'i : ∀ b ∈ fc, F' b = H b := fun b hb => if_pos hb
      have F'n : ∀ b, b ∉ fc → F' b = F b := fun b hb => if_neg hb
      have FN : ∀ b ∈ fc, F b = none := fun b hb => (r.own b (List.mem_append_left _ hb)).1
      have sm : Same F F' := fun b o z => (F'n b fun hb => by rw [FN b hb] at z; cases z).trans z
      have dj : ∀ b ∈ fq, b ∉ fc := fun b hb hc => (List.nodup_append.mp r.nd).2.2 b hc b hb rfl
      refine ⟨F', [] ++ fq, q.f0.trans sm, fun b u z => ?_, fun b z => ?_, q.keep, q.trk, .cons (.val (TrAt.dat sm ht hd F'i)) (q.sl.stay sm fun _ _ => rfl), q.nd, fun b hb => ⟨?_, (q.own b hb).2⟩, q.len, q.pin⟩
      · by_cases hb : b ∈ fc
        · rw [F'i b hb] at z
          exact z
        · rw [F'n b hb] at z
          exact q.fh b u z
      · by_cases hb : b ∈ fc
        · exact .inr (hf rfl b hb)
        · rw [F'n b hb] at z
          exact q.new b z
      · rw [F'n b (dj b hb)]
        exact (q.own b hb).1
def frzT (i : Nat) (ρ : En) : En := match ρ[i]? with
  | some (.own true (.tr t)) => (match t.dat with
    | some d => ρ.set i (.val d)
    | none => ρ)
  | _ => ρ
def mFrzT (i : Nat) (m : MS) : MS := fun ρ => m (frzT i ρ)
theorem Rel.frzT {i : Nat} (r : Rel K c σ ρ T H) : Rel K c σ (Fj.frzT i ρ) T H := by
  unfold Fj.frzT
  split
  · rename_i t he
    split
    · rename_i d hd
      obtain ⟨v, hv⟩ := r.ownv he
      have r2 := ((r.take hv he).freezeT hd).back hv fun w z => by
        have := r.pinned z he
        cases this
      rwa [List.set_set] at r2
    · exact r
  · exact r
end
theorem b_frzT {Y : Fam} {sts : List Stmt} (i : Nat) {m : MS} (h : JB Y sts m) : JB Y sts (mFrzT i m) := by
  obtain ⟨t, p, s⟩ := h
  exact ⟨t, p, fun c σ ρ T H D r q => s c σ _ T H D r.frzT q⟩
def sdaT (ks : List Key) (ts : List Tr) (k : Key) (d : PyData) : Option Tr := match keyIx ks k with
  | some j => match ts[j]? with
    | some (.node .lst us) => if us.length < 100000 ∧ ts.length < 100000 then some (.node (.dct ks) (ts.set j (.node .lst (us ++ [.leaf d])))) else none
    | _ => none
  | none => if ts.length < 100000 then some (.node (.dct (ks ++ [k])) (ts ++ [.node .lst [.leaf d]])) else none
def mSda (i kx j vx : Nat) : MS := fun ρ => match ρ[i]?, ρ[kx]?, ρ[vx]? with
  | some (.own fr (.tr (.node (.dct ks) ts))), some (.val kd), some (.val d) => match keyOf kd with
    | some k => if freeE ρ j = true ∧ j ≠ i ∧ j ≠ kx ∧ j ≠ vx ∧ j < ρ.length then (sdaT ks ts k d).map fun t => .nx ((ρ.set i (.own fr (.tr t))).set j .no) else none
    | none => none
  | _, _, _ => none
section
variable {Y : Fam}
theorem sem_sda {i kx j vx : Nat} {K : PySem.W.Frag} : SemS K (tSeq (tAsg (tDSetd (tVar i) (tVar kx) (tLst tNil)) (gName j)) (tDrop (tBM K "list" rAppend (tVar j) (tCons (tVar vx) tNil)))) (mSda i kx j vx) := fun c σ ρ T H D r q => by
  unfold mSda at q
  split at q
  · rename_i fr ks ts kd d hi hk hx
    split at q
    · rename_i k hkd
      split at q
      · rename_i hc
        obtain ⟨hf, n1, n2, n3, hj⟩ := hc
        cases ht : sdaT ks ts k d with
        | none =>
          rw [ht] at q
          exact q.elim
        | some t =>
          rw [ht] at q
          have ek := keyOf_eq hkd
          subst ek
          obtain ⟨vk, hvk, rk⟩ := r.slot hk
          have ey : vk = kV k := rk.top.key
          subst ey
          obtain ⟨vd, hvd, rd⟩ := r.slot hx
          have hls : σ.length = ρ.length := by
            obtain ⟨_, _, r0⟩ := r
            exact r0.len
          obtain ⟨a, vs, xs, F, f, hva, hnode, hts, hFH⟩ := r.root hi
          cases hnode with
          | dct hH hl2 hnd =>
            have hlen := hts.length
            refine ⟨_, hva, a, rfl, .inl ⟨_, .inl hH⟩, _, hvk, ?_⟩
            refine ⟨Nat.zero_le _, fun p hp => ?_⟩
            have hap : a ≠ p := ne_of_none hH hp
            have hH3 : upd H p (.lst []) a = some (.dK (ks.zip vs)) := by rw [upd_ne hap]; exact hH
            have step2 : ∀ (b : Addr) (ws : List V) (us : List Tr) (jx : Nat) (H4 : Hp) (ks1 : List Key) (ts1 : List Tr), Rel K c σ (ρ.set i (.own fr (.tr (.node (.dct ks1) ts1)))) T H4 → ts1[jx]? = some (.node .lst us) → us.length < 100000 →
                (∃ vs1, H4 a = some (.dK (ks1.zip vs1)) ∧ ks1.length = vs1.length ∧ ks1.Nodup ∧ vs1[jx]? = some (.ref b)) → t = .node (.dct ks1) (ts1.set jx (.node .lst (us ++ [.leaf d]))) →
                tDrop (tBM K "list" rAppend (tVar j) (tCons (tVar vx) tNil)) D (σ.set j (some (.ref b))) H4 := by
              intro b ws us jx H4 ks1 ts1 r4 hjx hul ⟨vs1, e1, e2, e3, e4⟩ et
              have hget : (Tr.node (.dct ks1) ts1).get [jx] = some (.node .lst us) := by
                unfold Tr.get
                rw [hjx]
                unfold Tr.get
                rfl
              have hii : i < ρ.length := (List.getElem?_eq_some_iff.mp hi).1
              have hx4 : (ρ.set i (.own fr (.tr (.node (.dct ks1) ts1))))[vx]? = some (.val d) := by
                by_cases e : i = vx
                · subst e
                  rw [hi] at hx
                  cases hx
                · rw [List.getElem?_set_ne e]
                  exact hx
              obtain ⟨vd4, hvd4, rd4⟩ := r4.slot hx4
              obtain ⟨v, b', vs2, xs2, g1, g2, g3, g4, wr⟩ := rd4.slotWrite (p := [jx]) (List.getElem?_set_self hii) rfl hget
              rw [hva] at g1
              cases g1
              have : AtP K H4 (.ref a) [jx] (.ref b) := ⟨a, .dct ks1, vs1, [a], .ref b, rfl, .dct e1 e2 e3, e4, rfl⟩
              have eb := AtP.uniq g2 this
              cases eb
              cases g3 with
              | lst g3 =>
                refine ⟨.ref b, by rw [List.getElem?_set_self (by omega)], .inl ⟨rfl, _, SqL.of g3⟩, vd4, by rw [List.getElem?_set_ne n3]; exact hvd4, ?_⟩
                refine ⟨b, _, vd4, rfl, rfl, g3, sz5l (by omega), ?_⟩
                have r5 := wr _ .lst (vs2 ++ [vd4]) (us ++ [.leaf d]) (.lst upd_same) fun F f fe h1 h2 => h1.snoc h2
                rw [List.set_set] at r5
                have e6 : (Tr.node (.dct ks1) ts1).put [jx] (.node .lst (us ++ [.leaf d])) = t := by
                  rw [et]
                  unfold Tr.put
                  rw [hjx]
                  unfold Tr.put
                  rfl
                rw [e6] at r5
                have hf5 : freeE (ρ.set i (.own fr (.tr t))) j = true := by
                  unfold freeE at hf ⊢
                  rw [List.getElem?_set_ne (Ne.symm n1)]
                  exact hf
                exact q _ _ (r5.putNo (.ref b) hf5)
            have hρi : ρ.set i (.own fr (.tr (.node (.dct ks) ts))) = ρ := set_same hi
            unfold sdaT at ht
            cases hix : keyIx ks k with
            | some jx =>
              rw [hix] at ht
              simp only at ht
              split at ht
              · rename_i us hus
                split at ht
                · rename_i hul
                  cases ht
                  obtain ⟨w, fw, hw, tw⟩ := hts.get hus
                  cases tw with
                  | @node b _ ws _ xs2 f2 hn2 ht2 =>
                    have hval : valV (ks.zip vs) k = some (.ref b) := by
                      rw [valV_zip hl2, hix]
                      exact hw
                    refine ⟨_, k, hH3, rfl, by rw [List.length_zip, hl2, Nat.min_self, hlen]; exact sz5l hul.2, fun v hv => ?_, fun z => ?_⟩
                    · rw [hval] at hv
                      cases hv
                      exact step2 b ws us jx _ ks ts (by rw [hρi]; exact r.fresh hp _) hus hul.1 ⟨vs, hH3, hl2, hnd, hw⟩ rfl
                    · rw [hval] at z
                      cases z
                · cases ht
              · cases ht
            | none =>
              rw [hix] at ht
              simp only at ht
              split at ht
              · rename_i hul
                cases ht
                have hval : valV (ks.zip vs) k = none := by
                  rw [valV_zip hl2, hix]
                refine ⟨_, k, hH3, rfl, by rw [List.length_zip, hl2, Nat.min_self, hlen]; exact sz5l hul, fun v hv => ?_, fun z => ?_⟩
                · rw [hval] at hv
                  cases hv
                · obtain ⟨F0, fp0, r0⟩ := r
                  have r3 := r0.lstNew (ds := []) hp .nil
                  obtain ⟨v, b', vs2, xs2, g1, g2, g3, g4, wr⟩ := r3.slotWrite (p := []) hi rfl (by unfold Tr.get; rfl)
                  rw [hva] at g1
                  cases g1
                  cases g2
                  cases g3 with
                  | dct g3 gl gnd =>
                    rw [hH3] at g3
                    have e3 := congrArg (List.map (·.2)) (HO.dK.inj (Option.some.inj g3))
                    rw [zip_snd hl2, zip_snd gl] at e3
                    subst e3
                    have nd2 : (ks ++ [k]).Nodup := List.nodup_append.mpr ⟨hnd, by simp, fun x hx y hy z => keyIx_mem.mp hix (by rw [List.mem_singleton] at hy; rw [← hy, ← z]; exact hx)⟩
                    have r5 := wr (.dK ((ks ++ [k]).zip (vs ++ [.ref p]))) (.dct (ks ++ [k])) (vs ++ [.ref p]) (ts ++ [.node .lst (leaves [])]) (.dct upd_same (by simp [hl2]) nd2) fun F f fe h1 h2 => h1.snoc h2
                    rw [putK_zip hl2 hnd, hix]
                    have r6 : Rel K c σ (ρ.set i (.own fr (.tr (.node (.dct (ks ++ [k])) (ts ++ [.node .lst []]))))) T (upd (upd H p (.lst [])) a (.dK ((ks ++ [k]).zip (vs ++ [.ref p])))) := by
                      unfold Tr.put leaves at r5
                      exact r5
                    exact step2 p [] [] ts.length (upd (upd H p (.lst [])) a (.dK ((ks ++ [k]).zip (vs ++ [.ref p])))) (ks ++ [k]) (ts ++ [.node .lst []]) r6 (by simp) (Nat.zero_lt_succ _) ⟨_, upd_same, by simp [hl2], nd2, by rw [← hlen]; simp⟩ (by simp)
              · cases ht
      · exact q.elim
    · exact q.elim
  · exact q.elim
theorem b_sda (i kx j vx : Nat) {x y z u : Str} {p1 p2 p3 p4 p5 p6 p7 p8 p9 p10 p11 : Pos} {sts : List Stmt} {n : MS} (hnd : ∀ l, (Y.X l).N.Nodup) (g : JB Y sts n)
    (h1 : ∀ l, (Y.X l).N[i]? = some x := by intro _; rfl) (h2 : ∀ l, (Y.X l).N[kx]? = some y := by intro _; rfl) (h3 : ∀ l, (Y.X l).N[j]? = some z := by intro _; rfl) (h4 : ∀ l, (Y.X l).N[vx]? = some u := by intro _; rfl)
    (v1 : ∀ l, Vis (Y.X l).env.scope x := by first | exact fun _ => Or.inl rfl | exact fun _ => Or.inr (Or.inl rfl)) (v2 : ∀ l, Vis (Y.X l).env.scope y := by first | exact fun _ => Or.inl rfl | exact fun _ => Or.inr (Or.inl rfl)) (v3 : ∀ l, Vis (Y.X l).env.scope z := by first | exact fun _ => Or.inl rfl | exact fun _ => Or.inr (Or.inl rfl)) (v4 : ∀ l, Vis (Y.X l).env.scope u := by first | exact fun _ => Or.inl rfl | exact fun _ => Or.inr (Or.inl rfl))
    (l3 : ∀ l, Loc (Y.X l).env.scope z := by first | exact fun _ => Or.inl rfl | exact fun _ => Or.inr rfl) (f3 : ∀ l, (Y.X l).fn z = true ∨ (Y.X l).env.scope.names.lookup z = some .local := by first | exact fun _ => .inl rfl | exact fun _ => .inr rfl)
    (d1 : (x == ("__debug__" : Str)) = false := by decide) (d2 : (x == ("__classdict__" : Str)) = false := by decide) (d3 : (y == ("__debug__" : Str)) = false := by decide) (d4 : (y == ("__classdict__" : Str)) = false := by decide) (d5 : (z == ("__debug__" : Str)) = false := by decide) (d6 : (z == ("__classdict__" : Str)) = false := by decide) (d7 : (u == ("__debug__" : Str)) = false := by decide) (d8 : (u == ("__classdict__" : Str)) = false := by decide)
    (m2 : ∀ l, M2 (Y.X l) (.Name x p1) "setdefault" p2 (.Name y p3) (.List [] p4) p5 := by intro _; exact ⟨rfl, rfl, rfl, rfl⟩)
    (hs : ∀ l, swapsWith (.Call (.Attribute (.Name x p1) "setdefault" p2) [.Name y p3, .List [] p4] [] p5) (some (.Name z p6)) p7.line (Y.X l).env = pure false := by intro _; rfl)
    (hbase : ∀ l, attributeBase (.Name z p8) "append" (Y.X l).env (eval (.Name z p8) (Y.X l).env) = eval (.Name z p8) (Y.X l).env := by intro _; rfl)
    (hfew : ∀ l, ((backTo p10 (starEach [.Name u p9] (Y.X l).env)).all (fun x => !x.1) && (backToKw p10 (keywordEach [] (Y.X l).env)).all (fun x => x.1.isSome) && decide (([.Name u p9] : List Expr).length + ([] : List Keyword).length + (if ([] : List Keyword).isEmpty then 0 else 1) < 30)) = true := by intro _; rfl)
    {ap : Pos} (hline : (ap.endLine == p10.line) = true := by rfl) (hst : ∀ l, starEach [.Name u p9] (Y.X l).env = (false, eval (.Name u p9) (Y.X l).env) :: starEach [] (Y.X l).env := by intro _; rfl) (hplain : ∀ l, (backTo p10 (starEach [] (Y.X l).env)).any (·.1) = false := by intro _; rfl)
    (hse : ∀ l, swapsWith (.Call (.Attribute (.Name z p8) "append" ap) [.Name u p9] [] p10) none p11.line (Y.X l).env = pure false := by intro _; rfl) :
    JB Y (.Assign [.Name z p6] (.Call (.Attribute (.Name x p1) "setdefault" p2) [.Name y p3, .List [] p4] [] p5) p7 :: .Expr (.Call (.Attribute (.Name z p8) "append" ap) [.Name u p9] [] p10) p11 :: sts) (mSeq (mSda i kx j vx) n) := by
  obtain ⟨t, pt, st⟩ := g
  refine ⟨tSeq (tAsg (tDSetd (tVar i) (tVar kx) (tLst tNil)) (gName j)) (tSeq (tDrop (tBM Y.K "list" rAppend (tVar j) (tCons (tVar vx) tNil))) t), fun l => ?_, fun c σ ρ T H D r q => ?_⟩
  · refine pss_cons (ps_set (hnd l) (h3 l) (l3 l) (pe_dsetd (pe_var (h1 l) (v1 l) d1 d2) (pe_var (h2 l) (v2 l) d3 d4) (pe_lst pa_nil) (m2 l)) (hs l) (f3 l)) (pss_cons (ps_expr ?_ (hse l)) (pt l))
    rw [← Y.hK l]
    exact pe_bm PySem.F.plainAttrs_list PySem.F.slot_list_append PySem.F.type_list_append mt_append (pe_var (h3 l) (v3 l) d5 d6) (pa_cons (pe_var (h4 l) (v4 l) d7 d8) pa_nil (hst l)) (hbase l) (hfew l) hline (hst l) (hplain l)
  · refine sem_sda (K := Y.K) c σ ρ T H { D with nx := t D } r ?_
    unfold mSeq at q
    cases hm : mSda i kx j vx ρ with
    | none =>
      rw [hm] at q
      exact q
    | some fl =>
      rw [hm] at q
      cases fl with
      | nx ρ' => exact fun σ' H' r' => st c σ' ρ' T H' D r' q
      | rt e ρ' => exact q
      | bk ρ' => exact q
      | ct ρ' => exact q
end
end Fj

set_option Elab.async false
set_option linter.all false
set_option maxRecDepth 100000
set_option maxHeartbeats 400000
set_option autoImplicit false
/-! sorted of any data that have an order, in a list or a tuple. -/
namespace Fj
open PySem PySem.Spec PyProof.Rows L2
section
variable {prog : Program} {w : World} {A : Around} {E : Value → Shared → Prop} {s : Shared}
open PySem.W PyProof.Rows in
theorem collect_seqT {l : Addr} {vs : List Value} {Q : List Value → Shared → Prop} (hl : s.heap.IsTuple l vs.toArray) (hsz : vs.length ≤ sizeLine)
    (h : Q vs { s with heap := (s.heap.push (seqObj "list" #[] 0)).update s.heap.objs.size (Obj.mapSeq (· ++ vs.toArray)) }) : wpAny (model prog w) A (collect (.ref l)) Q E s := by
  obtain ⟨o, ho, hc, n, hd⟩ := id hl
  unfold collect
  refine wpAny_bind (wpAny_runValue (codeAny_builtin entry_proto_collect' (show wpAny _ _ (do again (.builtin "list.__iadd__" ⟨[← newList [], .ref l], []⟩)) _ _ s from wpAny_bind (wpAny_newList (wpAny_pure ⟨Code.quiet_builtin _ (by decide +kernel), codeAny_builtin entry_list_iadd' ?_⟩)))))
  show wpAny _ _ (Builtin.List.listExtendWith (.ref s.heap.objs.size) (.ref l) (.ref s.heap.objs.size)) _ _ _
  unfold Builtin.List.listExtendWith
  have g : (s.heap.push (seqObj "list" #[] 0)).get? l = some o := Heap.get?_push_of_some _ ho
  refine wpAny_bind (wpAny_typeOf (T := "tuple") ⟨o, g, hc⟩ ?_)
  rw [if_pos (by rw [show (Value.type "tuple" == Value.type "tuple") = true by rfl]; simp)]
  refine wpAny_bind (listItems_at g hd (wpAny_bind (listItems_at (xs := #[]) (n := 0) (Heap.get?_push_size _ rfl) rfl ?_)))
  rw [if_neg (by simp)]
  refine wpAny_bind (listUpdate_at (xs := #[]) (n := 0) (Heap.get?_push_size _ rfl) rfl (wpAny_pure ?_) (Nat.zero_le _) (by simp; omega))
  refine wpAny_bind (wpAny_load (get?_update_seq (Heap.get?_push_size _ rfl) _) ?_)
  show wpAny _ _ (pure ((#[] : Array Value) ++ vs.toArray).toList) Q E _
  rw [show ((#[] : Array Value) ++ vs.toArray).toList = vs by simp]
  exact wpAny_pure h
open PySem.W PyProof.Rows in
/-- sorted(xs) of a list or a tuple -/
theorem sorted_any {l : Addr} {vs : List Value} {κ : KeyKind} {Q : Value → Shared → Prop} (hl : s.heap.IsList l vs.toArray ∨ s.heap.IsTuple l vs.toArray) (S : SortsAt prog w A.in1.in1 { s with heap := sortingHeap (copyHeap s.heap vs) (s.heap.objs.size + 1) vs } κ vs) (hL : vs.length ≤ sizeLine)
    (h : Q (.ref (s.heap.objs.size + 1)) { s with heap := sortedAll s.heap vs (sortVals κ false vs vs).toArray }) : wpAny (model prog w) A (call (.builtin "sorted") [.ref l]) Q E s := by
  rcases hl with hl | hl
  · exact sorted_vals hl S hL h
  refine Calls.call_function_entry kind_sorted plain_sorted entry_sorted (args_sorted1 _) ?_
  unfold Builtin.«sorted»
  refine wpAny_bind (m := checkCount "sorted" 1 1 _) (wpAny_pure (wpAny_bind (collect_seqT hl hL (wpAny_bind (wpAny_newList ?_ hL)))))
  have z : ((s.heap.push (seqObj "list" #[] 0)).update s.heap.objs.size (Obj.mapSeq (· ++ vs.toArray))).objs.size = s.heap.objs.size + 1 := by rw [Heap.size_update, size_push']
  show wpAny _ _ _ _ _ { s with heap := copyHeap s.heap vs }
  rw [z]
  refine wpAny_bind (wpAny_holding (wpAny_call_entry_kw slot_list_sort ⟨_, copyHeap_at s.heap vs, rfl⟩ entry_list_sort (wpAny_mono (list_sort_vals (P := fun f s' => f = .done (.ret .none) ∧ Q (.ref (s.heap.objs.size + 1)) s') (s := { s with heap := copyHeap s.heap vs }) (copyHeap_at s.heap vs) S hL ⟨rfl, h⟩) (fun f s' hf => ?_) fun _ _ e => e) (args_list_sort _)))
  obtain ⟨rfl, hq⟩ := hf
  exact ⟨_, rfl, wpAny_pure ⟨_, rfl, hq⟩⟩
end
/-- data in a list that sorted takes -/
def srtOk (ds : List PyData) : Bool := decide (ds.length ≤ 100000) && (ds.all (fun d => SeqAt.shaped d && decide (d.depth ≤ 60)) && (ds.all (fun d => ds.all fun e => PySem.W.alike d e) && (ds.all (fun d => match d with
  | .tuple (_ :: _) => true
  | _ => false) || ds.all (fun d => match d with
  | .none => false
  | .tuple _ => false
  | _ => true))))
def srtD (ds : List PyData) : List PyData := ds.mergeSort (PySem.W.dataLe false id)
def gSortD : List PyData → Option Ent
  | [.list ds] => if srtOk ds = true then some (.own true (.lst (srtD ds))) else none
  | [.tuple ds] => if srtOk ds = true then some (.own true (.lst (srtD ds))) else none
  | _ => none
def srtZ (xs : List V) (ds : List PyData) : List (V × PyData) := (xs.zip ds).mergeSort (PySem.W.dataLe false (·.2))
theorem srtZ_snd {xs : List V} {ds : List PyData} (h : xs.length = ds.length) : (srtZ xs ds).map (·.2) = srtD ds := by
  unfold srtZ srtD
  rw [List.map_mergeSort (f := fun p : V × PyData => p.2) (r := PySem.W.dataLe false (·.2)) (s := PySem.W.dataLe false id) (l := xs.zip ds) fun _ _ _ _ => rfl]
  have : (xs.zip ds).map (·.2) = ds := by rw [List.map_snd_zip (by omega)]
  rw [this]
theorem srtZ_len {xs : List V} {ds : List PyData} (h : xs.length = ds.length) : (srtZ xs ds).length = ds.length := by
  unfold srtZ
  rw [List.length_mergeSort, List.length_zip, h, Nat.min_self]
def rSortD (K : PySem.W.Frag) : List V → Hp → VK → Prop := fun vs H Q => ∃ (a : Addr) (xs : List V) (ds : List PyData), vs = [V.ref a] ∧ (SqL K H a xs ∨ SqT K H a xs) ∧ DpAll K H xs ds ∧ srtOk ds = true ∧ ∀ p, H p = none → Q (.ref p) (upd H p (.lst ((srtZ xs ds).map (·.1))))
theorem each_rel : ∀ {xs : List V} {us : List Value} {ds : List PyData}, Vals xs us → xs.length = ds.length → PySem.W.EachIs (fun v (b : V × PyData) => RelV b.1 v) us (xs.zip ds)
  | [], _, _, h, _ => by
    cases h
    exact .nil
  | x :: xs, _, [], h, l => by cases l
  | x :: xs, _, d :: ds, h, l => by
    cases h with
    | cons r t => exact .cons r (each_rel t (Nat.succ.inj l))
theorem rel_each : ∀ {bs : List (V × PyData)} {us : List Value}, PySem.W.EachIs (fun v (b : V × PyData) => RelV b.1 v) us bs → Vals (bs.map (·.1)) us
  | [], _, h => by
    cases h
    exact .nil
  | b :: bs, _, h => by
    cases h with
    | cons r t => exact .cons r (rel_each t)
theorem each_reads {h : Heap} : ∀ {xs : List V} {us : List Value} {ds : List PyData} {as : List Addr}, PySem.ReadsAll h us ds as → xs.length = ds.length → PySem.W.EachIs (fun v (b : V × PyData) => ∃ as, PySem.Reads h v b.2 as) us (xs.zip ds)
  | [], _, [], _, h, _ => by
    cases h
    exact .nil
  | [], _, d :: ds, _, _, l => by cases l
  | x :: xs, _, [], _, h, l => by cases l
  | x :: xs, _, d :: ds, _, h, l => by
    cases h with
    | cons r t => exact .cons ⟨_, r⟩ (each_reads t (Nat.succ.inj l))
theorem dp_len {K : PySem.W.Frag} {H : Hp} : ∀ {xs : List V} {ds : List PyData}, DpAll K H xs ds → xs.length = ds.length
  | _, _, .nil => rfl
  | _, _, .cons _ t => congrArg Nat.succ (dp_len t)
theorem cr_sortD {X : Cx} (hu : X.A.units + 65 < cLine) : CallR X (.builtin "sorted") (rSortD X.K) := by
  intro pins s σ H vs us Q I r h
  obtain ⟨a, xs, ds, rfl, hs, hx, hok, q⟩ := h
  rw [Vals.ref1 r]
  obtain ⟨its, rv, hz, hl⟩ : ∃ its : List Value, Vals xs its ∧ xs.length ≤ sizeLine ∧ (s.heap.IsList a its.toArray ∨ s.heap.IsTuple a its.toArray) := by
    rcases hs with hs | hs
    · obtain ⟨its, rv, hl, hz⟩ := I.list hs
      exact ⟨its, rv, hz, .inl hl.isList⟩
    · obtain ⟨its, rv, hl, hz⟩ := I.tuple hs
      exact ⟨its, rv, hz, .inr hl⟩
  obtain ⟨as, hr⟩ := Dp.readsAll I _ _ its hx rv
  have hlen : xs.length = ds.length := dp_len hx
  have er := each_reads (xs := xs) hr hlen
  have ee := each_rel (ds := ds) rv hlen
  simp only [srtOk, Bool.and_eq_true, List.all_eq_true, decide_eq_true_iff, Bool.or_eq_true] at hok
  obtain ⟨h1, h2, h3, h4⟩ := hok
  have ez : (xs.zip ds).map (fun b => b.2) = ds := by rw [List.map_snd_zip (by omega)]
  have hal : PySem.W.AllAlike ((xs.zip ds).map fun b => b.2) := by
    rw [ez]
    exact fun d hd e he => h3 d hd e he
  have hk : PySem.W.Sortable ((xs.zip ds).map fun b => b.2) := by
    rw [ez]
    rcases h4 with h4 | h4
    · refine .inl fun d hd => ?_
      have z := h4 d hd
      split at z
      · exact ⟨_, _, rfl⟩
      · cases z
    · refine .inr fun d hd => ?_
      have z := h4 d hd
      split at z
      · cases z
      · cases z
      · rename_i n1 n2
        exact ⟨n1, n2⟩
  have bd : ∀ b, b ∈ xs.zip ds → X.A.units + 2 + (b.2).depth < cLine := fun b hb => by
    have := (h2 b.2 (List.of_mem_zip hb).2).2
    omega
  have er' : PySem.W.EachIs (fun v (b : V × PyData) => ∃ as, PySem.Reads (PySem.W.sortingHeap (PySem.W.copyHeap s.heap its) (s.heap.objs.size + 1) its) v b.2 as) its (xs.zip ds) := er.mono fun _ _ ⟨as, r⟩ => ⟨as, PyProof.Rows.Reads.keeps (fun _ _ => PySem.W.sorting_copy_old) r⟩
  have so := PySem.W.sortVals_data false ee er' hal
  have vo := rel_each so
  refine sorted_any (κ := PySem.W.dataKind (PySem.W.sortingHeap (PySem.W.copyHeap s.heap its) (s.heap.objs.size + 1) its) ((xs.zip ds).map fun b => b.2)) hl (PySem.W.SortsAt.data (s := { s with heap := PySem.W.sortingHeap (PySem.W.copyHeap s.heap its) (s.heap.objs.size + 1) its }) (PySem.W.each_map (R := fun v d => ∃ as, PySem.Reads (PySem.W.sortingHeap (PySem.W.copyHeap s.heap its) (s.heap.objs.size + 1) its) v d as) (fun b : V × PyData => b.2) er') hal hk (PySem.W.bound_map (A := X.A.in1.in1) bd)) (by rw [← rv.length]; exact hz) ?_
  have old : ∀ b o, s.heap.get? b = some o → (PyProof.Rows.sortedAll s.heap its (PySem.W.sortVals (PySem.W.dataKind (PySem.W.sortingHeap (PySem.W.copyHeap s.heap its) (s.heap.objs.size + 1) its) ((xs.zip ds).map fun b => b.2)) false its its).toArray).get? b = some o := fun b o e => PyProof.Rows.sortedAll_old e
  obtain ⟨n, hn⟩ := PyProof.Rows.sortedAll_at s.heap its (PySem.W.sortVals (PySem.W.dataKind (PySem.W.sortingHeap (PySem.W.copyHeap s.heap its) (s.heap.objs.size + 1) its) ((xs.zip ds).map fun b => b.2)) false its its).toArray
  have hsz : s.heap.objs.size ≤ s.heap.objs.size + 1 := Nat.le_succ _
  refine ⟨.ref (s.heap.objs.size + 1), upd H (s.heap.objs.size + 1) (.lst ((srtZ xs ds).map (·.1))), I.laid (t' := s.toks) old hsz ⟨?_, _, n, vo, hn⟩, rfl, q _ (I.hok.fresh hsz)⟩
  rw [List.length_map, srtZ_len hlen, ← hlen]
  exact hz
section
variable {Y : Fam}
theorem rps_map {K : PySem.W.Frag} {F : Hp} : ∀ {xs : List V} {ds : List PyData}, Rps K F xs ds → ∀ p ∈ xs.zip ds, Rp K F p.1 p.2
  | _, _, .nil, p, h => (List.not_mem_nil h).elim
  | _, _, .cons r t, p, h => by
    rcases List.mem_cons.mp h with e | e
    · rw [e]
      exact r
    · exact rps_map t p e
theorem map_rps {K : PySem.W.Frag} {F : Hp} : ∀ {bs : List (V × PyData)}, (∀ p ∈ bs, Rp K F p.1 p.2) → Rps K F (bs.map (·.1)) (bs.map (·.2))
  | [], _ => .nil
  | b :: bs, h => .cons (h b (List.mem_cons_self ..)) (map_rps fun p hp => h p (List.mem_cons_of_mem _ hp))
theorem Rps.srt {K : PySem.W.Frag} {F : Hp} {xs : List V} {ds : List PyData} (h : Rps K F xs ds) : Rps K F ((srtZ xs ds).map (·.1)) (srtD ds) := by
  rw [← srtZ_snd h.length]
  refine map_rps fun p hp => rps_map h p ?_
  unfold srtZ at hp
  exact (List.mergeSort_perm _ _).mem_iff.mp hp
theorem lay_all : ∀ {ds : List PyData}, (∀ d ∈ ds, PyData.canLay0 d = true) → PyData.canLayAll0 ds = true
  | [], _ => by simp [PyData.canLayAll0]
  | d :: ds, h => by
    unfold PyData.canLayAll0
    rw [h d (List.mem_cons_self ..), lay_all fun x hx => h x (List.mem_cons_of_mem _ hx)]
    rfl
theorem srt_lay {ds : List PyData} (h : srtOk ds = true) : PyData.canLayAll0 ds = true := by
  simp only [srtOk, Bool.and_eq_true, List.all_eq_true, decide_eq_true_iff] at h
  exact lay_all fun d hd => SeqAt.canLay_of_shaped (h.2.1 d hd).1
theorem c_sortD : CallJ Y (.builtin "sorted") gSortD := by
  refine ⟨rSortD Y.K, fun j => by rw [← Y.hK j]; exact cr_sortD (units65 (Y.room j)), fun c σ ρ T H vs ds z Q hl r e q => ?_⟩
  unfold gSortD at e
  split at e
  · rename_i ds
    split at e
    · rename_i hok
      cases e
      obtain ⟨v, rfl⟩ := len1 hl
      obtain ⟨F, fp, f⟩ := r
      have f : RelF Y.K c σ ρ ((v, .val (.list ds)) :: T) H F fp := f
      obtain ⟨p, us, rfl, h1, h2⟩ := f.top.lstAt
      exact ⟨p, us, ds, rfl, .inl (.inl (.inl (f.fh _ _ h1))), (Rps.mono f.fh h2).dp (srt_lay hok), hok, fun p' hp => q _ _ (f.popV.lstNew hp h2.srt)⟩
    · cases e
  · rename_i ds
    split at e
    · rename_i hok
      cases e
      obtain ⟨v, rfl⟩ := len1 hl
      obtain ⟨F, fp, f⟩ := r
      have f : RelF Y.K c σ ρ ((v, .val (.tuple ds)) :: T) H F fp := f
      obtain ⟨p, us, rfl, h1, h2⟩ := f.top.tupAt
      exact ⟨p, us, ds, rfl, .inr (same_tup f.fh h1), (Rps.mono f.fh h2).dp (srt_lay hok), hok, fun p' hp => q _ _ (f.popV.lstNew hp h2.srt)⟩
    · cases e
  · cases e
def gSortedA (ds : List PyData) : Option Ent := (gSorted ds).or (gSortD ds)
theorem c_sortedA : CallJ Y (.builtin "sorted") gSortedA := c_sorted.or c_sortD
end
end Fj

set_option Elab.async false
set_option linter.all false
set_option maxRecDepth 100000
set_option maxHeartbeats 1000000
set_option autoImplicit false
/-! list(d.items()), sorted(d). -/
namespace Fj
open PySem PySem.Spec PyProof.Rows L2
section
variable {K : PySem.W.Frag} {c : Ct} {σ : L2.St} {ρ : En} {T : Tm} {H H' F F' : Hp} {fp : List Addr}
/-- more objects, some of them frozen -/
theorem RelF.grow (r : RelF K c σ ρ T H F fp) (s1 : Same H H') (s2 : Same F F') (s3 : Same F' H') (s4 : ∀ a, F' a ≠ none → F a ≠ none ∨ H a = none) : RelF K c σ ρ T H' F' fp := by
  have hne : ∀ a, H a ≠ none → H' a = H a := fun a z => by
    cases y : H a with
    | none => exact absurd y z
    | some o => exact s1 a o y
  refine ⟨r.f0.trans s2, s3, fun a z => ?_, fun a o z w => s1 a o (r.keep a o z w), fun a z => ?_, r.sl.stay s2 fun a ha => hne a (r.sl.there a ha), r.nd, fun a ha => ⟨?_, (r.own a ha).2⟩, r.len, r.pin⟩
  · rcases s4 a z with y | y
    · exact r.new a y
    · exact .inr (Classical.byContradiction fun w => r.trk a w y)
  · rw [hne a (r.trk a z)]
    exact r.trk a z
  · cases y : F' a with
    | none => rfl
    | some o =>
      rcases s4 a (by rw [y]; exact fun z => nomatch z) with z | z
      · exact absurd (r.own a ha).1 z
      · exact absurd z (r.sl.there a ha)
/-- a new list of the own, that stands already -/
theorem RelF.ownNew {p : Addr} {xs : List V} {ds : List PyData} (r : RelF K c σ ρ T H F fp) (h0 : c.H0 p = none) (hF : F p = none) (hp : p ∉ fp) (h : H p = some (.lst xs)) (hx : Rps K F xs ds) : Rel K c σ ρ ((.ref p, .own true (.lst ds)) :: T) H :=
  ⟨F, [p] ++ fp, r.f0, r.fh, r.new, r.keep, r.trk, .cons (.own (.lst h hx) fun _ a ha => by rw [List.mem_singleton.mp ha]; exact h0) r.sl, List.nodup_cons.mpr ⟨hp, r.nd⟩, fun a ha => by
    rcases List.mem_cons.mp ha with z | z
    · rw [z]
      exact ⟨hF, .inr h0⟩
    · exact r.own a z, r.len, r.pin⟩
end
def itemsD (kvs : List (PyData × PyData)) : List PyData := kvs.map fun p => .tuple [p.1, p.2]
def mLI (m : MV) : MO := fun ρ => match m ρ with
  | some (.dict kvs, ρ) => some (.own true (.lst (itemsD kvs)), ρ)
  | _ => none
theorem rpk_items {K : PySem.W.Frag} {F F' : Hp} (e : Same F F') : ∀ {us : List (Key × V)} {kvs : List (PyData × PyData)} {ts : List Addr}, Rpk K F us kvs → Paired (fun (t : Addr) (q : Key × V) => F' t = some (.tup [kV q.1, q.2])) ts us → Rps K F' (ts.map V.ref) (itemsD kvs)
  | _, _, _, .nil, h => by
    cases h
    exact .nil
  | _, _, _, .int r t, h => by
    cases h with
    | cons h h2 => exact .cons (.tup (.inl (.inl h)) (.cons (.int _) (.cons (r.mono e) .nil))) (rpk_items e t h2)
  | _, _, _, .str r t, h => by
    cases h with
    | cons h h2 => exact .cons (.tup (.inl (.inl h)) (.cons (.str _) (.cons (r.mono e) .nil))) (rpk_items e t h2)
theorem paired_mono {α β : Type} {R S : α → β → Prop} : ∀ {xs : List α} {ys : List β}, Paired R xs ys → (∀ x ∈ xs, ∀ y, R x y → S x y) → Paired S xs ys
  | _, _, .nil, _ => .nil
  | _, _, .cons h t, k => .cons (k _ (List.mem_cons_self ..) _ h) (paired_mono t fun x hx => k x (List.mem_cons_of_mem _ hx))
theorem paired_at {α β : Type} {R : α → β → Prop} : ∀ {xs : List α} {ys : List β}, Paired R xs ys → ∀ x ∈ xs, ∃ y, R x y
  | _, _, .nil, x, h => (List.not_mem_nil h).elim
  | _, _, .cons h t, x, hx => by
    rcases List.mem_cons.mp hx with e | e
    · exact ⟨_, e ▸ h⟩
    · exact paired_at t x e
section
variable {Y : Fam} {e : Expr} {m : MV} {p apos cpos pos : Pos}
theorem j_listItems (h : JV Y e m) (hm : Y.mg "list" = none) (hg : ∀ j, Gl (Y.X j) "list" := by intro _; rfl) (hbase : ∀ j, attributeBase e "items" (Y.X j).env (eval e (Y.X j).env) = eval e (Y.X j).env := by intro _; rfl) (hline : (apos.endLine == cpos.line) = true := by rfl)
    (hs : ∀ j, starEach [.Call (.Attribute e "items" apos) [] [] cpos] (Y.X j).env = (false, eval (.Call (.Attribute e "items" apos) [] [] cpos) (Y.X j).env) :: starEach [] (Y.X j).env := by intro _; rfl) : JO Y (.Call (.Name "list" p) [.Call (.Attribute e "items" apos) [] [] cpos] [] pos) (mLI m) := by
  obtain ⟨t, pe, s⟩ := h
  refine ⟨LiI.tListItems t, fun j => LiI.pe_listItems (Y.calm j) (pe j) (hg j) (by rw [Y.hmg j]; exact hm) (by decide +kernel) (hbase j) hline (hs j), fun c σ ρ T H Q r q => s c σ ρ T H _ r ?_⟩
  unfold mLI at q
  cases hm : m ρ with
  | none =>
    rw [hm] at q
    exact q
  | some z =>
    obtain ⟨d, ρ1⟩ := z
    rw [hm] at q
    cases d with
    | dict kvs =>
      simp only at q
      intro v H1 r1
      obtain ⟨F, fp, f⟩ := r1
      obtain ⟨a, us, rfl, h1, h2⟩ := f.dctAt
      refine ⟨a, us, rfl, f.fh _ _ h1, fun H' p ts k1 k2 k3 k4 k5 k6 => q _ _ ?_⟩
      let F' : Hp := fun b => if b ∈ ts then H' b else F b
      have F'i : ∀ b ∈ ts, F' b = H' b := fun b hb => if_pos hb
      have F'n : ∀ b, b ∉ ts → F' b = F b := fun b hb => if_neg hb
      have FN : ∀ b, H1 b = none → F b = none := fun b hb => by
        cases y : F b with
        | none => rfl
        | some o =>
          have := f.fh b o y
          rw [hb] at this
          cases this
      have sm : Same F F' := fun b o z => (F'n b fun hb => by rw [FN b (k3 b hb)] at z; cases z).trans z
      have f2 := f.popV.grow (H' := H') (F' := F') k1 sm (fun b o z => by
        by_cases hb : b ∈ ts
        · rw [F'i b hb] at z
          exact z
        · rw [F'n b hb] at z
          exact k1 b o (f.fh b o z)) (fun b z => by
        by_cases hb : b ∈ ts
        · exact .inr (k3 b hb)
        · rw [F'n b hb] at z
          exact .inl z)
      refine f2.ownNew (xs := ts.map V.ref) ?_ ?_ ?_ k5 (rpk_items sm h2 (paired_mono k6 fun t ht q hq => (F'i t ht).trans hq))
      · exact Classical.byContradiction fun w => f.trk p w k2
      · rw [F'n p k4]
        exact FN p k2
      · exact fun hp => f.popV.sl.there p hp k2
    | _ => exact q.elim
theorem isortT_eq {xs ys : List Str} (h : ys.Perm xs) (g : sortedS ys = true) : ys = isort ltT xs :=
  uniq_sorted (r := fun a b => ltT b a = false) (fun a b h1 h2 => ltT_tot h2 h1) (h.trans (isort_perm ltT xs).symm) (sorted_pw g) (isort_sorted ord_T xs)
/-- sorted(d): its keys -/
def gSortK : List PyData → Option Ent
  | [.dict kvs] => match strsD (kvs.map (·.1)) with
    | some xs => if xs.length < 64 then some (.own true (.lst ((isort ltT xs).map .str))) else none
    | none => match intsD (kvs.map (·.1)) with
      | some ns => if ns.length < 64 then some (.own true (.lst ((isort (fun i j => decide (i < j)) ns).map .int))) else none
      | none => none
  | _ => none
theorem rpk_strs {K : PySem.W.Frag} {F : Hp} : ∀ {us : List (Key × V)} {kvs : List (PyData × PyData)} {xs : List Str}, Rpk K F us kvs → kvs.map (·.1) = xs.map PyData.str → us.map (·.1) = xs.map Sum.inr
  | _, _, [], .nil, _ => rfl
  | _, _, _ :: _, .nil, h => by cases h
  | _, _, [], .int _ _, h => by cases h
  | _, _, [], .str _ _, h => by cases h
  | _, _, x :: xs, .int r t, h => by cases (List.cons.inj h).1
  | _, _, x :: xs, .str r t, h => by
    have e := (List.cons.inj h)
    cases e.1
    exact congrArg (List.cons _) (rpk_strs t e.2)
theorem rpk_ints {K : PySem.W.Frag} {F : Hp} : ∀ {us : List (Key × V)} {kvs : List (PyData × PyData)} {xs : List Int}, Rpk K F us kvs → kvs.map (·.1) = xs.map PyData.int → us.map (·.1) = xs.map Sum.inl
  | _, _, [], .nil, _ => rfl
  | _, _, _ :: _, .nil, h => by cases h
  | _, _, [], .int _ _, h => by cases h
  | _, _, [], .str _ _, h => by cases h
  | _, _, x :: xs, .str r t, h => by cases (List.cons.inj h).1
  | _, _, x :: xs, .int r t, h => by
    have e := (List.cons.inj h)
    cases e.1
    exact congrArg (List.cons _) (rpk_ints t e.2)
theorem rps_intsI {K : PySem.W.Frag} {F : Hp} : ∀ {xs : List Int}, Rps K F (xs.map V.int) (xs.map PyData.int)
  | [] => .nil
  | x :: xs => .cons (.int x) rps_intsI
def rSrtKS : List V → Hp → VK → Prop := fun xs H Q => ∃ (a : Addr) (kvs : List (Key × V)) (ks : List Str), xs = [.ref a] ∧ Rd H a (.dK kvs) ∧ kvs.map (·.1) = ks.map Sum.inr ∧ ks.length < 64 ∧ ∀ ys p, ys.Perm ks → sortedS ys = true → H p = none → Q (.ref p) (upd H p (.lst (ys.map V.str)))
def rSrtKI : List V → Hp → VK → Prop := fun xs H Q => ∃ (a : Addr) (kvs : List (Key × V)) (ks : List Int), xs = [.ref a] ∧ Rd H a (.dK kvs) ∧ kvs.map (·.1) = ks.map Sum.inl ∧ ks.length < 64 ∧ ∀ (ys : List Int) (p : Addr), ys.Perm ks → ys.Pairwise (· ≤ ·) → H p = none → Q (.ref p) (upd H p (.lst (ys.map V.int)))
theorem callR_or {X : Cx} {f : Value} {r1 r2 : List V → Hp → VK → Prop} (h1 : CallR X f r1) (h2 : CallR X f r2) : CallR X f (fun xs H Q => r1 xs H Q ∨ r2 xs H Q) := fun pins s σ H vs us Q I r z => z.elim (h1 pins s σ H vs us Q I r) (h2 pins s σ H vs us Q I r)
theorem c_sortK : CallJ Y (.builtin "sorted") gSortK := by
  refine ⟨fun xs H Q => rSrtKS xs H Q ∨ rSrtKI xs H Q, fun j => callR_or (call_sortedD (Y.calm j)) (call_sortedDI (Y.calm j)), fun c σ ρ T H vs ds z Q hl r e q => ?_⟩
  unfold gSortK at e
  split at e
  · rename_i kvs
    obtain ⟨v, rfl⟩ := len1 hl
    obtain ⟨F, fp, f⟩ := r
    have f : RelF Y.K c σ ρ ((v, .val (.dict kvs)) :: T) H F fp := f
    obtain ⟨a, us, rfl, h1, h2⟩ := f.dctAt
    split at e
    · rename_i xs hx
      split at e
      · rename_i hlt
        cases e
        refine .inl ⟨a, us, xs, rfl, .inl (f.fh _ _ h1), rpk_strs h2 (strsD_eq hx), hlt, fun ys p hp hs hn => ?_⟩
        rw [isortT_eq hp hs]
        exact q _ _ (f.popV.lstNew hn rps_strs)
      · cases e
    · split at e
      · rename_i ns hx
        split at e
        · rename_i hlt
          cases e
          refine .inr ⟨a, us, ns, rfl, .inl (f.fh _ _ h1), rpk_ints h2 (intsD_eq hx), hlt, fun ys p hp hs hn => ?_⟩
          have ey : ys = isort (fun i j => decide (i < j)) ns := uniq_sorted (r := fun a b : Int => a ≤ b) (fun a b h1 h2 => Int.le_antisymm h1 h2) (hp.trans (isort_perm _ _).symm) hs ((isort_sorted ord_int ns).imp fun {a b} h => by
            have := of_decide_eq_false h
            omega)
          rw [ey]
          exact q _ _ (f.popV.lstNew hn rps_intsI)
        · cases e
      · cases e
  · cases e
def gSortedB (ds : List PyData) : Option Ent := (gSortedA ds).or (gSortK ds)
theorem c_sortedB : CallJ Y (.builtin "sorted") gSortedB := c_sortedA.or c_sortK
end
end Fj

set_option Elab.async false
set_option linter.all false
set_option maxRecDepth 100000
set_option maxHeartbeats 1000000
set_option autoImplicit false
/-! Rules for what FjTs, FjTd, FjDd, FjSz, FjTb bring. -/
namespace Fj
open PySem PySem.Spec PyProof.Rows L2
/-- a dict of texts, its values data -/
def dTr (kvs : List (Str × PyData)) : Tr := .node (.dct (kvs.map fun p => .inr p.1)) (kvs.map fun p => .leaf p.2)
def dD (kvs : List (Str × PyData)) : PyData := .dict (kvs.map fun p => (.str p.1, p.2))
def putS : List (Str × PyData) → Str → PyData → List (Str × PyData)
  | [], k, d => [(k, d)]
  | p :: r, k, d => if p.1 = k then (k, d) :: r else p :: putS r k d
/-- a dict of texts, its values own lists of data -/
def lTr (kvs : List (Str × List PyData)) : Tr := .node (.dct (kvs.map fun p => .inr p.1)) (kvs.map fun p => .node .lst (leaves p.2))
def lD (kvs : List (Str × List PyData)) : PyData := .dict (kvs.map fun p => (.str p.1, .list p.2))
def addS : List (Str × List PyData) → Str → PyData → List (Str × List PyData)
  | [], k, d => [(k, [d])]
  | p :: r, k, d => if p.1 = k then (k, p.2 ++ [d]) :: r else p :: addS r k d
theorem dat_leaves : ∀ ds : List PyData, datAll (leaves ds) = some ds
  | [] => by
    unfold leaves
    rw [List.map_nil, datAll]
  | d :: ds => by
    have := dat_leaves ds
    unfold leaves at this ⊢
    rw [List.map_cons, datAll, Tr.dat]
    simp only [this]
    rfl
theorem dTr_dat (kvs : List (Str × PyData)) : (dTr kvs).dat = some (dD kvs) := by
  unfold dTr dD
  have h : datAll (kvs.map fun p => Tr.leaf p.2) = some (kvs.map (·.2)) := by
    have := dat_leaves (kvs.map (·.2))
    unfold leaves at this
    rwa [List.map_map] at this
  rw [Tr.dat, h]
  simp only [Option.map_some, Option.some.injEq, PyData.dict.injEq]
  clear h
  induction kvs with
  | nil => rfl
  | cons p r ih => exact congrArg (List.cons _) ih
theorem lTr_dat (kvs : List (Str × List PyData)) : (lTr kvs).dat = some (lD kvs) := by
  unfold lTr lD
  have h : datAll (kvs.map fun p => Tr.node .lst (leaves p.2)) = some (kvs.map fun p => .list p.2) := by
    induction kvs with
    | nil => rw [List.map_nil, datAll]; rfl
    | cons p r ih =>
      rw [List.map_cons, datAll, Tr.dat, dat_leaves]
      simp only [Option.map_some, ih]
      rfl
  rw [Tr.dat, h]
  simp only [Option.map_some, Option.some.injEq, PyData.dict.injEq]
  clear h
  induction kvs with
  | nil => rfl
  | cons p r ih => exact congrArg (List.cons _) ih
theorem dPut_dTr (kvs : List (Str × PyData)) (k : Str) (d : PyData) : dPut (kvs.map fun p => .inr p.1) (kvs.map fun p => .leaf p.2) (.inr k) (.leaf d) = dTr (putS kvs k d) := by
  have h : (match keyIx (kvs.map fun p => (.inr p.1 : Key)) (.inr k) with
      | some j => (kvs.map (fun p => (.inr p.1 : Key)), (kvs.map fun p => Tr.leaf p.2).set j (.leaf d))
      | none => (kvs.map (fun p => (.inr p.1 : Key)) ++ [.inr k], (kvs.map fun p => Tr.leaf p.2) ++ [.leaf d])) = ((putS kvs k d).map (fun p => (.inr p.1 : Key)), (putS kvs k d).map fun p => Tr.leaf p.2) := by
    induction kvs with
    | nil => rfl
    | cons p r ih =>
      rw [List.map_cons, keyIx_cons]
      unfold putS
      by_cases e : p.1 = k
      · rw [if_pos (congrArg Sum.inr e), if_pos e, e]
        rfl
      · rw [if_neg (fun z => e (Sum.inr.inj z)), if_neg e]
        cases hk : keyIx (r.map fun p => (.inr p.1 : Key)) (.inr k) with
        | none =>
          rw [hk] at ih
          have e1 := congrArg Prod.fst ih
          have e2 := congrArg Prod.snd ih
          simp only at e1 e2
          simp only [Option.map_none, List.map_cons, List.cons_append, e1, e2]
        | some j =>
          rw [hk] at ih
          have e1 := congrArg Prod.fst ih
          have e2 := congrArg Prod.snd ih
          simp only at e1 e2
          simp only [Option.map_some, List.map_cons, List.set_cons_succ, ← e1, e2]
  unfold dPut dTr
  cases hk : keyIx (kvs.map fun p => (.inr p.1 : Key)) (.inr k) with
  | none =>
    rw [hk] at h
    have e1 := congrArg Prod.fst h
    have e2 := congrArg Prod.snd h
    simp only at e1 e2 ⊢
    rw [e1, e2]
  | some j =>
    rw [hk] at h
    have e1 := congrArg Prod.fst h
    have e2 := congrArg Prod.snd h
    simp only at e1 e2 ⊢
    rw [← e1, e2]
theorem sda_lTr (kvs : List (Str × List PyData)) (k : Str) (d : PyData) (h1 : kvs.length < 100000) (h2 : ∀ p ∈ kvs, p.2.length < 100000) : sdaT (kvs.map fun p => .inr p.1) (kvs.map fun p => .node .lst (leaves p.2)) (.inr k) d = some (lTr (addS kvs k d)) := by
  have h : (match keyIx (kvs.map fun p => (.inr p.1 : Key)) (.inr k) with
      | some j => (match (kvs.map fun p => Tr.node .lst (leaves p.2))[j]? with
        | some (.node .lst us) => if us.length < 100000 then some (kvs.map (fun p => (.inr p.1 : Key)), (kvs.map fun p => Tr.node .lst (leaves p.2)).set j (.node .lst (us ++ [.leaf d]))) else none
        | _ => none)
      | none => some (kvs.map (fun p => (.inr p.1 : Key)) ++ [.inr k], (kvs.map fun p => Tr.node .lst (leaves p.2)) ++ [.node .lst [.leaf d]])) = some ((addS kvs k d).map (fun p => (.inr p.1 : Key)), (addS kvs k d).map fun p => Tr.node .lst (leaves p.2)) := by
    clear h1
    induction kvs with
    | nil => rfl
    | cons p r ih =>
      have ih := ih fun q hq => h2 q (List.mem_cons_of_mem _ hq)
      rw [List.map_cons, keyIx_cons]
      unfold addS
      by_cases e : p.1 = k
      · rw [if_pos (congrArg Sum.inr e), if_pos e, e]
        have hl : (leaves p.2).length < 100000 := by
          unfold leaves
          rw [List.length_map]
          exact h2 p (List.mem_cons_self ..)
        simp only [List.map_cons, List.getElem?_cons_zero, if_pos hl, List.set_cons_zero]
        unfold leaves
        rw [List.map_append, List.map_cons, List.map_nil]
      · rw [if_neg (fun z => e (Sum.inr.inj z)), if_neg e]
        cases hk : keyIx (r.map fun p => (.inr p.1 : Key)) (.inr k) with
        | none =>
          rw [hk] at ih
          have ih := Option.some.inj ih
          have e1 := congrArg Prod.fst ih
          have e2 := congrArg Prod.snd ih
          simp only at e1 e2
          simp only [Option.map_none, List.map_cons, List.cons_append, e1, e2]
        | some j =>
          rw [hk] at ih
          simp only at ih
          simp only [Option.map_some, List.map_cons, List.getElem?_cons_succ, List.set_cons_succ]
          split at ih
          · rename_i us hus
            split at ih
            · rename_i hl
              have ih := Option.some.inj ih
              have e1 := congrArg Prod.fst ih
              have e2 := congrArg Prod.snd ih
              simp only at e1 e2
              simp only [hus, if_pos hl, ← e1, e2]
            · cases ih
          · cases ih
  unfold sdaT lTr
  cases hk : keyIx (kvs.map fun p => (.inr p.1 : Key)) (.inr k) with
  | none =>
    rw [hk] at h
    have h := Option.some.inj h
    have e1 := congrArg Prod.fst h
    have e2 := congrArg Prod.snd h
    simp only at e1 e2
    simp only [List.length_map, h1, if_true, e1, e2]
  | some j =>
    rw [hk] at h
    simp only at h
    split at h
    · rename_i us hus
      split at h
      · rename_i hl
        have h := Option.some.inj h
        have e1 := congrArg Prod.fst h
        have e2 := congrArg Prod.snd h
        simp only at e1 e2
        simp only [hus, List.length_map, h1, hl, and_self, if_true, ← e1, e2]
      · cases h
    · cases h
section
variable {α β : Type} {ρ : En} {S : Ent → En → Prop} {Z : Fl → Prop} {A : PyData → En → Prop}
def trOf : Ent → Option Tr
  | .own _ (.tr t) => some t
  | _ => none
def dctOf : Ent → Option (Bool × List Key × List Tr)
  | .own fr (.tr (.node (.dct ks) ts)) => some (fr, ks, ts)
  | _ => none
theorem tr_of {fr : Bool} {t : Tr} : trOf (.own fr (.tr t)) = some t := rfl
theorem dct_of {fr : Bool} {ks : List Key} {ts : List Tr} : dctOf (.own fr (.tr (.node (.dct ks) ts))) = some (fr, ks, ts) := rfl
theorem dct_d {fr : Bool} {kvs : List (Str × PyData)} : dctOf (.own fr (.tr (dTr kvs))) = some (fr, kvs.map (fun p => .inr p.1), kvs.map fun p => .leaf p.2) := rfl
theorem dct_l {fr : Bool} {kvs : List (Str × List PyData)} : dctOf (.own fr (.tr (lTr kvs))) = some (fr, kvs.map (fun p => .inr p.1), kvs.map fun p => .node .lst (leaves p.2)) := rfl
theorem w_trD : W (mTrD ρ) S = S (.own true (.tr (.node (.dct []) []))) ρ := rfl
theorem key_str {x : Str} : keyOf (.str x) = some (.inr x) := rfl
theorem key_int {i : Int} : keyOf (.int i) = some (.inl i) := rfl
theorem tr_val {d : PyData} : entTr (.val d) = some (.leaf d) := rfl
theorem tr_own {t : Tr} : entTr (.own true (.tr t)) = some t := rfl
theorem tr_lst {ds : List PyData} : entTr (.own true (.lst ds)) = some (.node .lst (leaves ds)) := rfl
theorem w_trPut {i : Nat} {m : MO} {n : MV} : W1 (mTrPut i m n ρ) Z = W (m ρ) fun e ρ => W1 ρ[i]? fun x => W1 (trOf x) fun _ => W (n ρ) fun kd ρ => W1 (entTr e) fun u => W1 (keyOf kd) fun k => W1 ρ[i]? fun x => W1 (dctOf x) fun q => q.2.2.length < 100000 ∧ Z (.nx (ρ.set i (.own q.1 (.tr (dPut q.2.1 q.2.2 k u))))) := by
  unfold mTrPut
  cases hm : m ρ with
  | none => rfl
  | some z =>
    obtain ⟨e, ρ1⟩ := z
    simp only [W_some]
    cases h1 : ρ1[i]? with
    | none => rfl
    | some x =>
      simp only [W1_some]
      cases ht : trOf x with
      | none =>
        cases x with
        | own fr ce =>
          cases ce with
          | tr t => cases ht
          | _ => rfl
        | _ => rfl
      | some t =>
        obtain ⟨fr, rfl⟩ : ∃ fr, x = .own fr (.tr t) := by
          cases x with
          | own fr ce =>
            cases ce with
            | tr t' =>
              cases ht
              exact ⟨_, rfl⟩
            | _ => cases ht
          | _ => cases ht
        simp only [W1_some]
        cases hn : n ρ1 with
        | none => rfl
        | some z =>
          obtain ⟨kd, ρ2⟩ := z
          simp only [W_some]
          unfold trPutE
          cases he : entTr e with
          | none => cases keyOf kd <;> rfl
          | some u =>
            cases hk : keyOf kd with
            | none => rfl
            | some k =>
              simp only [W1_some]
              cases h2 : ρ2[i]? with
              | none => rfl
              | some x =>
                simp only [W1_some]
                cases hd : dctOf x with
                | none =>
                  cases x with
                  | own fr ce =>
                    cases ce with
                    | tr t =>
                      cases t with
                      | node nd ts =>
                        cases nd with
                        | dct ks => cases hd
                        | _ => rfl
                      | _ => rfl
                    | _ => rfl
                  | _ => rfl
                | some q =>
                  obtain ⟨fr, ks, ts⟩ := q
                  obtain rfl : x = .own fr (.tr (.node (.dct ks) ts)) := by
                    cases x with
                    | own fr ce =>
                      cases ce with
                      | tr t =>
                        cases t with
                        | node nd ts =>
                          cases nd with
                          | dct ks =>
                            cases hd
                            rfl
                          | _ => cases hd
                        | _ => cases hd
                      | _ => cases hd
                    | _ => cases hd
                  simp only [W1_some]
                  by_cases hl : ts.length < 100000
                  · rw [if_pos hl]
                    simp only [Option.map_some, W1_some, hl, true_and]
                  · rw [if_neg hl]
                    simp only [Option.map_none, hl, false_and]
                    rfl
theorem w_sda {i kx j vx : Nat} : W1 (mSda i kx j vx ρ) Z = W1 ρ[i]? fun x => W1 (dctOf x) fun q => W1 ρ[kx]? fun y => W1 (valOf y) fun kd => W1 ρ[vx]? fun z => W1 (valOf z) fun d => W1 (keyOf kd) fun k => (freeE ρ j = true ∧ j ≠ i ∧ j ≠ kx ∧ j ≠ vx ∧ j < ρ.length) ∧ W1 (sdaT q.2.1 q.2.2 k d) fun t => Z (.nx ((ρ.set i (.own q.1 (.tr t))).set j .no)) := by
  unfold mSda
  cases h1 : ρ[i]? with
  | none => rfl
  | some x =>
    simp only [W1_some]
    cases hd : dctOf x with
    | none =>
      cases x with
      | own fr ce =>
        cases ce with
        | tr t =>
          cases t with
          | node nd ts =>
            cases nd with
            | dct ks => cases hd
            | _ => rfl
          | _ => rfl
        | _ => rfl
      | _ => rfl
    | some q =>
      obtain ⟨fr, ks, ts⟩ := q
      obtain rfl : x = .own fr (.tr (.node (.dct ks) ts)) := by
        cases x with
        | own fr ce =>
          cases ce with
          | tr t =>
            cases t with
            | node nd ts =>
              cases nd with
              | dct ks =>
                cases hd
                rfl
              | _ => cases hd
            | _ => cases hd
          | _ => cases hd
        | _ => cases hd
      simp only [W1_some]
      cases h2 : ρ[kx]? with
      | none => rfl
      | some y =>
        cases y with
        | val kd =>
          simp only [W1_some, val_of]
          cases h3 : ρ[vx]? with
          | none => rfl
          | some z =>
            cases z with
            | val d =>
              simp only [W1_some, val_of]
              cases keyOf kd with
              | none => rfl
              | some k =>
                simp only [W1_some]
                by_cases hc : freeE ρ j = true ∧ j ≠ i ∧ j ≠ kx ∧ j ≠ vx ∧ j < ρ.length
                · rw [if_pos hc]
                  simp only [eq_true hc, true_and]
                  cases sdaT ks ts k d <;> rfl
                · rw [if_neg hc]
                  simp only [eq_false hc, false_and]
                  rfl
            | _ => rfl
        | _ => rfl
def dictOf : PyData → Option (List (PyData × PyData))
  | .dict kvs => some kvs
  | _ => none
theorem dict_of {kvs : List (PyData × PyData)} : dictOf (.dict kvs) = some kvs := rfl
theorem dict_d {kvs : List (Str × PyData)} : dictOf (dD kvs) = some (kvs.map fun p => (.str p.1, p.2)) := rfl
theorem dict_l {kvs : List (Str × List PyData)} : dictOf (lD kvs) = some (kvs.map fun p => (.str p.1, .list p.2)) := rfl
theorem w_li {m : MV} : W (mLI m ρ) S = W (m ρ) fun d ρ => W1 (dictOf d) fun kvs => S (.own true (.lst (itemsD kvs))) ρ := by
  unfold mLI
  cases m ρ with
  | none => rfl
  | some z =>
    obtain ⟨d, ρ1⟩ := z
    cases d <;> rfl
theorem items_d (kvs : List (Str × PyData)) : itemsD (kvs.map fun p => (.str p.1, p.2)) = kvs.map fun p => .tuple [.str p.1, p.2] := by
  unfold itemsD
  rw [List.map_map]
  rfl
def stxOf : PyData → Option Str
  | .str x => some x
  | _ => none
theorem stx_of {x : Str} : stxOf (.str x) = some x := rfl
theorem w_inTab {ks : List Str} {m : MV} {A : PyData → En → Prop} : W (mInTab ks m ρ) A = W (m ρ) fun d ρ => W1 (stxOf d) fun z => A (.bool (decide (z ∈ ks))) ρ := by
  unfold mInTab
  cases m ρ with
  | none => rfl
  | some z =>
    obtain ⟨d, ρ1⟩ := z
    cases d <;> rfl
def joinD (a : Str) (ds : List PyData) : Option PyData := match strsD ds with
  | some xs => if (xs.map (·.length)).sum + xs.length * a.length ≤ 100000 then some (.str (Txt.join a xs)) else none
  | none => none
theorem join_S {a : Str} {xs : List Str} {R : PyData → Prop} : W1 (joinD a (xs.map .str)) R = ((xs.map (·.length)).sum + xs.length * a.length ≤ 100000 ∧ R (.str (Txt.join a xs))) := by
  unfold joinD
  rw [strsD_map]
  exact W1_if
theorem w_join {m n : MV} {A : PyData → En → Prop} : W (mJoin m n ρ) A = W (m ρ) fun a ρ => W1 (stxOf a) fun a => W (n ρ) fun d ρ => W1 (listOf d) fun ds => W1 (joinD a ds) fun z => A z ρ := by
  unfold mJoin
  cases m ρ with
  | none => rfl
  | some z =>
    obtain ⟨d, ρ1⟩ := z
    cases d with
    | str a =>
      simp only [W_some, stx_of, W1_some]
      cases n ρ1 with
      | none => rfl
      | some z =>
        obtain ⟨d, ρ2⟩ := z
        cases d with
        | list ds =>
          simp only [W_some, list_of, W1_some]
          unfold joinD
          cases strsD ds with
          | none => rfl
          | some xs =>
            simp only
            by_cases h : (xs.map (·.length)).sum + xs.length * a.length ≤ 100000
            · rw [if_pos h, if_pos h]
              rfl
            · rw [if_neg h, if_neg h]
              rfl
        | _ => rfl
    | _ => rfl
/-! sorted(set(..)) -/
def ss2 : PyData → Option Ent
  | .list ds => match tupsD ds with
    | some nss => if tupsOk nss = true then some (.own true (.lst ((isort HT.lexLt (dedup nss)).map tupI))) else none
    | none => match strsD ds with
      | some xs => if xs.length < 64 then some (.own true (.lst ((srtT xs).map .str))) else none
      | none => none
  | _ => none
theorem w_ss2 {m : MV} : W (mSS2 m ρ) S = W (m ρ) fun d ρ => W1 (ss2 d) fun e => S e ρ := by
  unfold mSS2
  cases m ρ with
  | none => rfl
  | some z =>
    obtain ⟨d, ρ1⟩ := z
    cases d with
    | list ds =>
      simp only [W_some]
      unfold ss2
      simp only
      cases tupsD ds with
      | some nss =>
        simp only
        by_cases h : tupsOk nss = true
        · rw [if_pos h, if_pos h]
          rfl
        · rw [if_neg h, if_neg h]
          rfl
      | none =>
        simp only
        cases strsD ds with
        | none => rfl
        | some xs =>
          simp only
          by_cases h : xs.length < 64
          · rw [if_pos h, if_pos h]
            rfl
          · rw [if_neg h, if_neg h]
            rfl
    | _ => rfl
theorem ss2_S {xs : List Str} {R : Ent → Prop} : W1 (ss2 (.list (xs.map .str))) R = (xs.length < 64 ∧ R (.own true (.lst ((srtT xs).map .str)))) := by
  cases xs with
  | nil =>
    have e : ss2 (.list (List.map .str [])) = some (.own true (.lst ((srtT []).map .str))) := rfl
    rw [e]
    exact propext ⟨fun h => ⟨by decide, h⟩, fun h => h.2⟩
  | cons x xs =>
    have e : tupsD ((x :: xs).map PyData.str) = none := rfl
    unfold ss2
    simp only [e, strsD_map]
    exact W1_if
/-! trees in the surroundings -/
theorem eb_tr {fr : Bool} {t : Tr} : borS (.own fr (.tr t)) = borT t := rfl
theorem bt_d {kvs : List (Str × PyData)} : borT (dTr kvs) = .val (dD kvs) := by
  unfold borT
  rw [dTr_dat]
theorem bt_l {kvs : List (Str × List PyData)} : borT (lTr kvs) = .val (lD kvs) := by
  unfold borT
  rw [lTr_dat]
theorem ev_tr {fr : Bool} {t : Tr} : valS (.own fr (.tr t)) = .no := rfl
theorem ed_tr {fr : Bool} {t : Tr} : isDk (.own fr (.tr t)) = false := rfl
theorem ef_tr {fr : Bool} {t : Tr} {k : Bool} : dkFit k (.own fr (.tr t)) = true := rfl
theorem em_tr {fr : Bool} {t : Tr} {x : Ent} : merS (.own fr (.tr t)) x = .own fr (.tr t) := rfl
theorem ek_tr {fr : Bool} {t : Tr} : keepS (.own fr (.tr t)) = .own fr (.tr t) := rfl
theorem w_frzT {i : Nat} {m : MS} : W1 (mFrzT i m ρ) Z = W1 (m (frzT i ρ)) Z := rfl
theorem frzT_d {i : Nat} {kvs : List (Str × PyData)} (h : ρ[i]? = some (.own true (.tr (dTr kvs)))) : frzT i ρ = ρ.set i (.val (dD kvs)) := by
  unfold frzT
  rw [h]
  simp only [dTr_dat]
theorem frzT_l {i : Nat} {kvs : List (Str × List PyData)} (h : ρ[i]? = some (.own true (.tr (lTr kvs)))) : frzT i ρ = ρ.set i (.val (lD kvs)) := by
  unfold frzT
  rw [h]
  simp only [lTr_dat]
/-! look-ups -/
theorem lk_map {α : Type} (f : α → PyData) (kvs : List (Str × α)) (k : Str) : lkD (kvs.map fun p => (.str p.1, f p.2)) (.inr k) = (kvs.lookup k).map f := by
  induction kvs with
  | nil => rfl
  | cons p r ih =>
    rw [List.map_cons, List.lookup_cons]
    unfold lkD
    by_cases e : p.1 = k
    · have h : keyOf (.str p.1) = some (.inr k) := by rw [e]; rfl
      have h2 : (k == p.1) = true := by rw [e]; exact beq_self_eq_true k
      rw [if_pos h, h2]
      rfl
    · have h : ¬ keyOf (.str p.1) = some (.inr k) := fun z => e (Sum.inr.inj (Option.some.inj z))
      have h2 : (k == p.1) = false := by
        rw [beq_eq_false_iff_ne]
        exact fun z => e z.symm
      rw [if_neg h, ih, h2]
/-! texts -/
theorem g_inS {k : Nat} {y : Str} {Q : PyData → Prop} : W1 (gIn (.str ⟨#[k]⟩) (.str y)) Q = Q (.bool (decide (k ∈ y.cps.toList))) := rfl
theorem g_ltS {x y : Str} {Q : PyData → Prop} : W1 (gLt (.str x) (.str y)) Q = Q (.bool (ltT x y)) := by
  unfold ltT
  rw [PyProof.Rows.ltCps_eq]
  rfl
end
/-! sorted -/
section
variable {R : Ent → Prop}
theorem sb_of {ds : List PyData} {e : Ent} (h : gSorted ds = some e) : gSortedB ds = some e := by
  unfold gSortedB gSortedA
  rw [h]
  rfl
theorem g_sbI {ns : List Int} : W1 (gSortedB [.list (ns.map .int)]) R = R (.own true (.lst ((isort (fun i j => decide (i < j)) ns).map .int))) := by
  have h : gSorted [.list (ns.map .int)] = some (.own true (.lst ((isort (fun i j => decide (i < j)) ns).map .int))) := by
    unfold gSorted gSortI
    simp only [intsD_map]
    rfl
  rw [sb_of h]
  rfl
abbrev kvD (p : Str × Str) : PyData := .tuple [.str p.1, .str p.2]
def srtP (ps : List (Str × Str)) : List (Str × Str) := ps.mergeSort fun p q => PySem.W.dataLe false id (kvD p) (kvD q)
theorem srtP_map (ps : List (Str × Str)) : srtD (ps.map kvD) = (srtP ps).map kvD := by
  unfold srtD srtP
  rw [List.map_mergeSort (f := kvD) (r := fun p q => PySem.W.dataLe false id (kvD p) (kvD q)) (s := PySem.W.dataLe false id) (l := ps) fun _ _ _ _ => rfl]
theorem srtP_perm (ps : List (Str × Str)) : (srtP ps).Perm ps := List.mergeSort_perm _ _
def okP (p : Str × Str) : Prop := PyData.strOk p.1 = true ∧ PyData.strOk p.2 = true
theorem lay_pr {p : Str × Str} (h : okP p) : PyData.canLay0 (kvD p) = true := by simp [PyData.canLay0, PyData.canLayAll0, h.1, h.2]
theorem depth_pr (p : Str × Str) : PyData.depth (kvD p) = 1 := by simp [PyData.depth, PyData.depthAll]
theorem shaped_pr {p : Str × Str} (h : okP p) : SeqAt.shaped (kvD p) = true := by
  unfold SeqAt.shaped
  rw [lay_pr h, depth_pr]
  rfl
theorem depthAll_le {k : Nat} : ∀ {ds : List PyData}, (∀ d ∈ ds, PyData.depth d ≤ k) → PyData.depthAll ds ≤ k
  | [], _ => by simp [PyData.depthAll]
  | d :: ds, h => by
    unfold PyData.depthAll
    have := h d (List.mem_cons_self ..)
    have := depthAll_le fun x hx => h x (List.mem_cons_of_mem _ hx)
    omega
theorem shaped_rowT {ds : List PyData} (h : ∀ d ∈ ds, PyData.canLay0 d = true ∧ PyData.depth d ≤ 60) : SeqAt.shaped (.tuple ds) = true := by
  unfold SeqAt.shaped PyData.canLay0 PyData.depth
  rw [lay_all fun d hd => (h d hd).1]
  have := depthAll_le fun d hd => (h d hd).2
  exact decide_eq_true (by omega)
theorem shaped_rowL {ds : List PyData} (h : ∀ d ∈ ds, PyData.canLay0 d = true ∧ PyData.depth d ≤ 60) : SeqAt.shaped (.list ds) = true := by
  unfold SeqAt.shaped PyData.canLay0 PyData.depth
  rw [lay_all fun d hd => (h d hd).1]
  have := depthAll_le fun d hd => (h d hd).2
  exact decide_eq_true (by omega)
theorem pr_rows {ps : List (Str × Str)} (hp : ∀ p ∈ ps, okP p) : ∀ d ∈ ps.map kvD, PyData.canLay0 d = true ∧ PyData.depth d ≤ 60 := fun d hd => by
  obtain ⟨p, hm, rfl⟩ := List.mem_map.mp hd
  exact ⟨lay_pr (hp p hm), by rw [depth_pr]; decide⟩
theorem alike_pr (p q : Str × Str) : PySem.W.alike (kvD p) (kvD q) = true := by simp [PySem.W.alike, PySem.W.alikeAll]
theorem srtOk_pr {ps : List (Str × Str)} (hp : ∀ p ∈ ps, okP p) (h : ps.length ≤ 100000) : srtOk (ps.map kvD) = true := by
  simp only [srtOk, Bool.and_eq_true, List.all_eq_true, decide_eq_true_iff, List.length_map, Bool.or_eq_true]
  refine ⟨h, fun d hd => ?_, fun d hd e he => ?_, .inl fun d hd => ?_⟩
  · obtain ⟨p, hm, rfl⟩ := List.mem_map.mp hd
    exact ⟨shaped_pr (hp p hm), by rw [depth_pr]; decide⟩
  · obtain ⟨p, _, rfl⟩ := List.mem_map.mp hd
    obtain ⟨q, _, rfl⟩ := List.mem_map.mp he
    exact alike_pr p q
  · obtain ⟨p, _, rfl⟩ := List.mem_map.mp hd
    rfl
theorem g_sbP {ps : List (Str × Str)} (hp : ∀ p ∈ ps, okP p) (h : ps.length ≤ 100000) : W1 (gSortedB [.list (ps.map kvD)]) R = R (.own true (.lst ((srtP ps).map kvD))) := by
  cases ps with
  | nil =>
    have e : gSortedB [.list (List.map kvD [])] = some (.own true (.lst ((srtP []).map kvD))) := by
      refine sb_of ?_
      unfold srtP
      rw [List.mergeSort_nil]
      rfl
    rw [e]
    rfl
  | cons p ps =>
    have e1 : gSorted [.list ((p :: ps).map kvD)] = none := rfl
    have e : gSortedB [.list ((p :: ps).map kvD)] = some (.own true (.lst ((srtP (p :: ps)).map kvD))) := by
      unfold gSortedB gSortedA gSortD
      rw [e1]
      simp only [srtOk_pr hp h, if_true, srtP_map]
      rfl
    rw [e]
    rfl
theorem g_sbPT {ps : List (Str × Str)} (hp : ∀ p ∈ ps, okP p) (h : ps.length ≤ 100000) : W1 (gSortedB [.tuple (ps.map kvD)]) R = R (.own true (.lst ((srtP ps).map kvD))) := by
  have e1 : gSorted [.tuple (ps.map kvD)] = none := rfl
  have e : gSortedB [.tuple (ps.map kvD)] = some (.own true (.lst ((srtP ps).map kvD))) := by
    unfold gSortedB gSortedA gSortD
    rw [e1]
    simp only [srtOk_pr hp h, if_true, srtP_map]
    rfl
  rw [e]
  rfl
theorem keys_map {α : Type} (f : α → PyData) (kvs : List (Str × α)) : (kvs.map fun p => ((.str p.1 : PyData), f p.2)).map (·.1) = (kvs.map (·.1)).map PyData.str := by
  rw [List.map_map, List.map_map]
  rfl
theorem g_sbl {kvs : List (Str × List PyData)} (h : kvs.length < 64) : W1 (gSortedB [lD kvs]) R = R (.own true (.lst ((isort ltT (kvs.map (·.1))).map .str))) := by
  have e : gSortedB [lD kvs] = some (.own true (.lst ((isort ltT (kvs.map (·.1))).map .str))) := by
    have e1 : gSortedA [lD kvs] = none := rfl
    unfold gSortedB
    rw [e1]
    unfold gSortK lD
    simp only [keys_map, strsD_map, List.length_map, h, if_true]
    rfl
  rw [e]
  rfl
theorem dataLt_pr (p q : Str × Str) : PySem.W.dataLt (kvD p) (kvD q) = false → ltT p.1 q.1 = false := by
  intro h
  rw [PySem.W.dataLt_pair (by simp [PySem.W.alike]) (by simp [PySem.W.alike])] at h
  by_cases e : p.1 = q.1
  · rw [e]
    exact ltT_irr _
  · have e2 : PyData.eqv (.str p.1) (.str q.1) = false := by simp [PyData.eqv, e]
    rw [e2] at h
    simp only [Bool.false_eq_true, if_false] at h
    rw [PySem.W.dataLt_str, ← PyProof.Rows.ltCps_eq] at h
    exact h
/-- pairs in order: what comes behind has no lesser first text -/
theorem srtP_up (ps : List (Str × Str)) : (srtP ps).Pairwise fun p q => ltT q.1 p.1 = false := by
  have h := PySem.W.sort_pairwise (PySem.W.sortLe_total (PyProof.Rows.listOrd PyProof.Rows.itemOrd) false fun p : Str × Str => PySem.W.keyToks (kvD p)) ps
  refine h.imp fun {p q} z => dataLt_pr q p ?_
  have z : (!PySem.W.dataLt (kvD q) (kvD p)) = true := z
  simpa using z
end
/-! membership -/
theorem any_eqv {d : PyData} {ds : List PyData} (s1 : sim d = true) (s2 : ∀ x ∈ ds, sim x = true) {b : Bool} (hb : b = true ↔ d ∈ ds) : (ds.any fun z => PyData.eqv z d) = b := by
  rw [Bool.eq_iff_iff, hb, List.any_eq_true]
  exact ⟨fun ⟨x, hx, e⟩ => (eqv_iff x d (s2 x hx) s1).mp e ▸ hx, fun h => ⟨d, h, (eqv_iff d d s1 s1).mpr rfl⟩⟩
theorem g_inT {d : PyData} {ds : List PyData} {Q : PyData → Prop} (h1 : SeqAt.shaped d = true) (h2 : SeqAt.shaped (.tuple ds) = true) (s1 : sim d = true) (s2 : ∀ x ∈ ds, sim x = true) {b : Bool} (hb : b = true ↔ d ∈ ds) : W1 (gIn d (.tuple ds)) Q = Q (.bool b) := by
  unfold gIn gInD
  simp only [h1, h2, Bool.and_self, if_true, any_eqv s1 s2 hb]
  cases d <;> rfl
theorem g_ninL {d : PyData} {ds : List PyData} {Q : PyData → Prop} (h1 : SeqAt.shaped d = true) (h2 : SeqAt.shaped (.list ds) = true) (s1 : sim d = true) (s2 : ∀ x ∈ ds, sim x = true) {b : Bool} (hb : b = true ↔ d ∈ ds) : W1 (gNotInD d (.list ds)) Q = Q (.bool (!b)) := by
  unfold gNotInD
  simp only [h1, h2, Bool.and_self, if_true, any_eqv s1 s2 hb]
  rfl
/-! short loops -/
def stepF (k : En → Prop) (Z : Fl → Prop) : Fl → Prop
  | .nx ρ => k ρ
  | .ct ρ => k ρ
  | .bk ρ => Z (.nx ρ)
  | .rt e ρ => Z (.rt e ρ)
section
variable {g : MG} {m : MS} {d : PyData} {ds : List PyData} {ρ : En} {k : En → Prop} {Z : Fl → Prop} {e : Ent}
theorem step_nx : stepF k Z (.nx ρ) = k ρ := rfl
theorem step_ct : stepF k Z (.ct ρ) = k ρ := rfl
theorem step_bk : stepF k Z (.bk ρ) = Z (.nx ρ) := rfl
theorem step_rt : stepF k Z (.rt e ρ) = Z (.rt e ρ) := rfl
theorem w_forNil : W1 (forL g m [] ρ) Z = Z (.nx ρ) := rfl
theorem w_forCons : W1 (forL g m (d :: ds) ρ) Z = W1 (g d ρ) fun ρ => W1 (m ρ) fun f => stepF (fun ρ => W1 (forL g m ds ρ) Z) Z f := by
  rw [forL]
  cases g d ρ with
  | none => rfl
  | some ρ1 =>
    simp only [W1_some]
    cases m ρ1 with
    | none => rfl
    | some f => cases f <;> rfl
end
theorem g_sbR {nss : List (List Int)} (h : ∀ n ∈ nss, n.length = 2) {R : Ent → Prop} : W1 (gSortedB [.list (nss.map tupI)]) R = R (.own true (.lst ((isort HT.lexLt nss).map tupI))) := by
  have e : gSorted [.list (nss.map tupI)] = some (.own true (.lst ((isort HT.lexLt nss).map tupI))) := by
    have z := (g_sortP h (R := fun e => e = .own true (.lst ((isort HT.lexLt nss).map tupI)))).mpr rfl
    cases hg : gSorted [.list (nss.map tupI)] with
    | none =>
      rw [hg] at z
      exact z.elim
    | some x =>
      rw [hg] at z
      exact congrArg some z
  rw [sb_of e]
  rfl
theorem chr_inj {l m : List Char} (h : l.map Char.toNat = m.map Char.toNat) : l = m := by
  induction l generalizing m with
  | nil =>
    cases m with
    | nil => rfl
    | cons y m => cases h
  | cons x l ih =>
    cases m with
    | nil => cases h
    | cons y m =>
      rw [List.map_cons, List.map_cons] at h
      injection h with h1 h2
      rw [ih h2, Char.toNat_inj.mp h1]
theorem ofStr_inj {a b : String} : (Str.ofString a = Str.ofString b) = (a = b) := by
  refine propext ⟨fun h => ?_, fun h => congrArg _ h⟩
  rw [Str.ofString_eq_toList, Str.ofString_eq_toList] at h
  injection h with h
  have h1 : a.toList.map Char.toNat = b.toList.map Char.toNat := by
    have := congrArg Array.toList h
    simpa using this
  exact String.toList_inj.mp (chr_inj h1)
theorem wq0 : type_of% @Fj.ofStr_inj ∧ type_of% @Fj.w_trD ∧ type_of% @Fj.w_trPut ∧ type_of% @Fj.w_sda ∧ type_of% @Fj.w_li ∧ type_of% @Fj.w_inTab ∧ type_of% @Fj.stx_of ∧ type_of% @Fj.w_join ∧ type_of% @Fj.join_S ∧ type_of% @Fj.w_ss2 ∧ type_of% @Fj.ss2_S ∧ type_of% @Fj.eb_tr ∧ type_of% @Fj.bt_d ∧ type_of% @Fj.bt_l ∧ type_of% @Fj.ev_tr ∧ type_of% @Fj.ed_tr ∧ type_of% @Fj.ef_tr ∧ type_of% @Fj.em_tr ∧ type_of% @Fj.ek_tr := ⟨@Fj.ofStr_inj, @Fj.w_trD, @Fj.w_trPut, @Fj.w_sda, @Fj.w_li, @Fj.w_inTab, @Fj.stx_of, @Fj.w_join, @Fj.join_S, @Fj.w_ss2, @Fj.ss2_S, @Fj.eb_tr, @Fj.bt_d, @Fj.bt_l, @Fj.ev_tr, @Fj.ed_tr, @Fj.ef_tr, @Fj.em_tr, @Fj.ek_tr⟩
theorem wq1 : type_of% @Fj.step_nx ∧ type_of% @Fj.step_ct ∧ type_of% @Fj.step_bk ∧ type_of% @Fj.step_rt ∧ type_of% @Fj.w_frzT ∧ type_of% @Fj.tr_of ∧ type_of% @Fj.dct_of ∧ type_of% @Fj.dct_d ∧ type_of% @Fj.dct_l ∧ type_of% @Fj.key_str ∧ type_of% @Fj.key_int ∧ type_of% @Fj.tr_val ∧ type_of% @Fj.tr_own ∧ type_of% @Fj.tr_lst ∧ type_of% @Fj.dict_of ∧ type_of% @Fj.dict_d ∧ type_of% @Fj.dict_l ∧ type_of% @Fj.items_d ∧ type_of% @Fj.g_inS ∧ type_of% @Fj.g_ltS ∧ type_of% @Fj.g_sbI ∧ type_of% @Fj.dPut_dTr := ⟨@Fj.step_nx, @Fj.step_ct, @Fj.step_bk, @Fj.step_rt, @Fj.w_frzT, @Fj.tr_of, @Fj.dct_of, @Fj.dct_d, @Fj.dct_l, @Fj.key_str, @Fj.key_int, @Fj.tr_val, @Fj.tr_own, @Fj.tr_lst, @Fj.dict_of, @Fj.dict_d, @Fj.dict_l, @Fj.items_d, @Fj.g_inS, @Fj.g_ltS, @Fj.g_sbI, @Fj.dPut_dTr⟩
theorem wq2 : type_of% @Fj.dTr_dat ∧ type_of% @Fj.lTr_dat := ⟨@Fj.dTr_dat, @Fj.lTr_dat⟩
end Fj

set_option Elab.async false
set_option linter.all false
set_option maxRecDepth 100000
set_option maxHeartbeats 0
namespace L_k16
open PySem PySem.Spec PyProof.Rows L2 Fj
noncomputable section

def top (i : Nat) : Stmt := PySem.Challenge.pw_facejudge_k16_whole_conditions_by_their.main.body.getD i (.Pass ⟨0, 0, 0, 0⟩)
abbrev s_is_name : Stmt := top 7
abbrev s__law_dealt : Stmt := top 22
abbrev s__law_draw : Stmt := top 23
abbrev s_is_pair_of_words : Stmt := top 13
abbrev s__law_pick : Stmt := top 24
abbrev s__law_mixed : Stmt := top 25
abbrev s_is_target_value : Stmt := top 14
abbrev s__law_any_word : Stmt := top 26
abbrev s_need_target : Stmt := top 16
abbrev s__law_some_words : Stmt := top 27
abbrev s__law_any_target : Stmt := top 30
abbrev s__law_some_pairs : Stmt := top 29
abbrev s_is_met : Stmt := top 18
abbrev s__law_holds : Stmt := top 31
abbrev s__law_pairs_in : Stmt := top 32
abbrev s__law_all_targets : Stmt := top 33
abbrev s_is_condition_value : Stmt := top 15
abbrev s__law_any_condition : Stmt := top 28
abbrev s_need_condition : Stmt := top 17
abbrev s_does_hold : Stmt := top 20
abbrev s_law : Stmt := top 34
abbrev FnP (K : PySem.W.Frag) (x : Str) (st : Stmt) (dv : List V) (f : Addr) (fd : FuncData) : Prop := FunD K x x (defArgs st) (defBody st) (defScope st) dv [] f fd
abbrev N_is_name : List Str := ["thing", "sign"]
abbrev P_is_name : List Str := ["thing"]
theorem sc_is_name : FnScope N_is_name P_is_name (defScope s_is_name) := ⟨rfl, rfl, rfl, by decide +kernel, rfl, by decide +kernel, by decide +kernel⟩
abbrev DV_is_name : List V := []
def d_is_name : He.DefD := ⟨("is_name", none), "is_name", "is_name", defArgs s_is_name, defBody s_is_name, defScope s_is_name, [], []⟩
abbrev N__law_dealt : List Str := ["script", "mixed", "cell"]
abbrev P__law_dealt : List Str := ["script"]
theorem sc__law_dealt : FnScope N__law_dealt P__law_dealt (defScope s__law_dealt) := ⟨rfl, rfl, rfl, by decide +kernel, rfl, by decide +kernel, by decide +kernel⟩
abbrev DV__law_dealt : List V := []
def d__law_dealt : He.DefD := ⟨("_law_dealt", none), "_law_dealt", "_law_dealt", defArgs s__law_dealt, defBody s__law_dealt, defScope s__law_dealt, [], []⟩
abbrev N__law_draw : List Str := ["deck", "below", "figure", "cell"]
abbrev P__law_draw : List Str := ["deck", "below"]
theorem sc__law_draw : FnScope N__law_draw P__law_draw (defScope s__law_draw) := ⟨rfl, rfl, rfl, by decide +kernel, rfl, by decide +kernel, by decide +kernel⟩
abbrev DV__law_draw : List V := []
def d__law_draw : He.DefD := ⟨("_law_draw", none), "_law_draw", "_law_draw", defArgs s__law_draw, defBody s__law_draw, defScope s__law_draw, [], []⟩
abbrev N_is_pair_of_words : List Str := ["thing"]
abbrev P_is_pair_of_words : List Str := ["thing"]
theorem sc_is_pair_of_words : FnScope N_is_pair_of_words P_is_pair_of_words (defScope s_is_pair_of_words) := ⟨rfl, rfl, rfl, by decide +kernel, rfl, by decide +kernel, by decide +kernel⟩
abbrev DV_is_pair_of_words : List V := []
def d_is_pair_of_words : He.DefD := ⟨("is_pair_of_words", none), "is_pair_of_words", "is_pair_of_words", defArgs s_is_pair_of_words, defBody s_is_pair_of_words, defScope s_is_pair_of_words, [], []⟩
abbrev N__law_pick : List Str := ["deck", "some"]
abbrev P__law_pick : List Str := ["deck", "some"]
theorem sc__law_pick : FnScope N__law_pick P__law_pick (defScope s__law_pick) := ⟨rfl, rfl, rfl, by decide +kernel, rfl, by decide +kernel, by decide +kernel⟩
abbrev DV__law_pick : List V := []
def d__law_pick : He.DefD := ⟨("_law_pick", none), "_law_pick", "_law_pick", defArgs s__law_pick, defBody s__law_pick, defScope s__law_pick, [], []⟩
abbrev N__law_mixed : List Str := ["deck", "some", "marks", "at", "mark"]
abbrev P__law_mixed : List Str := ["deck", "some"]
theorem sc__law_mixed : FnScope N__law_mixed P__law_mixed (defScope s__law_mixed) := ⟨rfl, rfl, rfl, by decide +kernel, rfl, by decide +kernel, by decide +kernel⟩
abbrev DV__law_mixed : List V := []
def d__law_mixed : He.DefD := ⟨("_law_mixed", none), "_law_mixed", "_law_mixed", defArgs s__law_mixed, defBody s__law_mixed, defScope s__law_mixed, [], []⟩
abbrev N_is_target_value : List Str := ["thing", "near", "far", "pair"]
abbrev P_is_target_value : List Str := ["thing"]
theorem sc_is_target_value : FnScope N_is_target_value P_is_target_value (defScope s_is_target_value) := ⟨rfl, rfl, rfl, by decide +kernel, rfl, by decide +kernel, by decide +kernel⟩
abbrev DV_is_target_value : List V := []
def d_is_target_value : He.DefD := ⟨("is_target_value", none), "is_target_value", "is_target_value", defArgs s_is_target_value, defBody s_is_target_value, defScope s_is_target_value, [], []⟩
abbrev N__law_any_word : List Str := ["deck", "size", "place"]
abbrev P__law_any_word : List Str := ["deck"]
theorem sc__law_any_word : FnScope N__law_any_word P__law_any_word (defScope s__law_any_word) := ⟨rfl, rfl, rfl, by decide +kernel, rfl, by decide +kernel, by decide +kernel⟩
abbrev DV__law_any_word : List V := []
def d__law_any_word : He.DefD := ⟨("_law_any_word", none), "_law_any_word", "_law_any_word", defArgs s__law_any_word, defBody s__law_any_word, defScope s__law_any_word, [], []⟩
abbrev N_need_target : List Str := ["target"]
abbrev P_need_target : List Str := ["target"]
theorem sc_need_target : FnScope N_need_target P_need_target (defScope s_need_target) := ⟨rfl, rfl, rfl, by decide +kernel, rfl, by decide +kernel, by decide +kernel⟩
abbrev DV_need_target : List V := []
def d_need_target : He.DefD := ⟨("need_target", none), "need_target", "need_target", defArgs s_need_target, defBody s_need_target, defScope s_need_target, [], []⟩
abbrev N__law_some_words : List Str := ["deck", "many", "turn"]
abbrev P__law_some_words : List Str := ["deck", "many"]
theorem sc__law_some_words : FnScope N__law_some_words P__law_some_words (defScope s__law_some_words) := ⟨rfl, rfl, rfl, by decide +kernel, rfl, by decide +kernel, by decide +kernel⟩
abbrev DV__law_some_words : List V := []
def d__law_some_words : He.DefD := ⟨("_law_some_words", none), "_law_some_words", "_law_some_words", defArgs s__law_some_words, defBody s__law_some_words, defScope s__law_some_words, [], []⟩
abbrev N__law_any_target : List Str := ["deck", "pairs", "table", "key", "value"]
abbrev P__law_any_target : List Str := ["deck", "pairs"]
theorem sc__law_any_target : FnScope N__law_any_target P__law_any_target (defScope s__law_any_target) := ⟨rfl, rfl, rfl, by decide +kernel, rfl, by decide +kernel, by decide +kernel⟩
abbrev DV__law_any_target : List V := []
def d__law_any_target : He.DefD := ⟨("_law_any_target", none), "_law_any_target", "_law_any_target", defArgs s__law_any_target, defBody s__law_any_target, defScope s__law_any_target, [], []⟩
abbrev N__law_some_pairs : List Str := ["deck", "found", "key", "value"]
abbrev P__law_some_pairs : List Str := ["deck"]
theorem sc__law_some_pairs : FnScope N__law_some_pairs P__law_some_pairs (defScope s__law_some_pairs) := ⟨rfl, rfl, rfl, by decide +kernel, rfl, by decide +kernel, by decide +kernel⟩
abbrev DV__law_some_pairs : List V := []
def d__law_some_pairs : He.DefD := ⟨("_law_some_pairs", none), "_law_some_pairs", "_law_some_pairs", defArgs s__law_some_pairs, defBody s__law_some_pairs, defScope s__law_some_pairs, [], []⟩
abbrev N_is_met : List Str := ["condition", "target"]
abbrev P_is_met : List Str := ["condition", "target"]
theorem sc_is_met : FnScope N_is_met P_is_met (defScope s_is_met) := ⟨rfl, rfl, rfl, by decide +kernel, rfl, by decide +kernel, by decide +kernel⟩
abbrev DV_is_met : List V := []
def d_is_met : He.DefD := ⟨("is_met", none), "is_met", "is_met", defArgs s_is_met, defBody s_is_met, defScope s_is_met, [], []⟩
abbrev N__law_holds : List Str := ["condition", "target", "word"]
abbrev P__law_holds : List Str := ["condition", "target"]
theorem sc__law_holds : FnScope N__law_holds P__law_holds (defScope s__law_holds) := ⟨rfl, rfl, rfl, by decide +kernel, rfl, by decide +kernel, by decide +kernel⟩
abbrev DV__law_holds : List V := []
def d__law_holds : He.DefD := ⟨("_law_holds", none), "_law_holds", "_law_holds", defArgs s__law_holds, defBody s__law_holds, defScope s__law_holds, [], []⟩
abbrev N__law_pairs_in : List Str := ["condition", "found", "part"]
abbrev P__law_pairs_in : List Str := ["condition"]
theorem sc__law_pairs_in : FnScope N__law_pairs_in P__law_pairs_in (defScope s__law_pairs_in) := ⟨rfl, rfl, rfl, by decide +kernel, rfl, by decide +kernel, by decide +kernel⟩
abbrev DV__law_pairs_in : List V := []
def d__law_pairs_in : He.DefD := ⟨("_law_pairs_in", none), "_law_pairs_in", "_law_pairs_in", defArgs s__law_pairs_in, defBody s__law_pairs_in, defScope s__law_pairs_in, [], []⟩
abbrev N__law_all_targets : List Str := ["conditions", "condition", "key", "found", "values", "more", "value", "row", "target"]
abbrev P__law_all_targets : List Str := ["conditions"]
theorem sc__law_all_targets : FnScope N__law_all_targets P__law_all_targets (defScope s__law_all_targets) := ⟨rfl, rfl, rfl, by decide +kernel, rfl, by decide +kernel, by decide +kernel⟩
abbrev DV__law_all_targets : List V := []
def d__law_all_targets : He.DefD := ⟨("_law_all_targets", none), "_law_all_targets", "_law_all_targets", defArgs s__law_all_targets, defBody s__law_all_targets, defScope s__law_all_targets, [], []⟩
abbrev N_is_condition_value : List Str := ["thing"]
abbrev P_is_condition_value : List Str := ["thing"]
theorem sc_is_condition_value : FnScope N_is_condition_value P_is_condition_value (defScope s_is_condition_value) := ⟨rfl, rfl, rfl, by decide +kernel, rfl, by decide +kernel, by decide +kernel⟩
abbrev DV_is_condition_value : List V := []
def d_is_condition_value : He.DefD := ⟨("is_condition_value", none), "is_condition_value", "is_condition_value", defArgs s_is_condition_value, defBody s_is_condition_value, defScope s_is_condition_value, [], []⟩
abbrev N__law_any_condition : List Str := ["deck", "pairs", "most", "deep", "part", "one"]
abbrev P__law_any_condition : List Str := ["deck", "pairs", "most", "deep"]
theorem sc__law_any_condition : FnScope N__law_any_condition P__law_any_condition (defScope s__law_any_condition) := ⟨rfl, rfl, rfl, by decide +kernel, rfl, by decide +kernel, by decide +kernel⟩
abbrev DV__law_any_condition : List V := [.int 4]
abbrev dd__law_any_condition : List PyData := [.int 4]
theorem dr__law_any_condition {K : PySem.W.Frag} {F : Hp} : Rps K F DV__law_any_condition dd__law_any_condition := (.cons (.int 4) .nil)
def d__law_any_condition : He.DefD := ⟨("_law_any_condition", none), "_law_any_condition", "_law_any_condition", defArgs s__law_any_condition, defBody s__law_any_condition, defScope s__law_any_condition, [.int 4], []⟩
abbrev N_need_condition : List Str := ["condition"]
abbrev P_need_condition : List Str := ["condition"]
theorem sc_need_condition : FnScope N_need_condition P_need_condition (defScope s_need_condition) := ⟨rfl, rfl, rfl, by decide +kernel, rfl, by decide +kernel, by decide +kernel⟩
abbrev DV_need_condition : List V := []
def d_need_condition : He.DefD := ⟨("need_condition", none), "need_condition", "need_condition", defArgs s_need_condition, defBody s_need_condition, defScope s_need_condition, [], []⟩
abbrev N_does_hold : List Str := ["condition", "target"]
abbrev P_does_hold : List Str := ["condition", "target"]
theorem sc_does_hold : FnScope N_does_hold P_does_hold (defScope s_does_hold) := ⟨rfl, rfl, rfl, by decide +kernel, rfl, by decide +kernel, by decide +kernel⟩
abbrev DV_does_hold : List V := []
def d_does_hold : He.DefD := ⟨("does_hold", none), "does_hold", "does_hold", defArgs s_does_hold, defBody s_does_hold, defScope s_does_hold, [], []⟩
abbrev N_law : List Str := ["script", "deck", "turn", "pairs", "targets", "one", "other", "at", "target", "got", "some", "word", "due", "far", "go", "key", "value"]
abbrev P_law : List Str := ["script"]
theorem sc_law : FnScope N_law P_law (defScope s_law) := ⟨rfl, rfl, rfl, by decide +kernel, rfl, by decide +kernel, by decide +kernel⟩
abbrev DV_law : List V := []
def d_law : He.DefD := ⟨("law", none), "law", "law", defArgs s_law, defBody s_law, defScope s_law, [], []⟩
def fn : List He.DefD := [d_is_name, d__law_dealt, d__law_draw, d_is_pair_of_words, d__law_pick, d__law_mixed, d_is_target_value, d__law_any_word, d_need_target, d__law_some_words, d__law_any_target, d__law_some_pairs, d_is_met, d__law_holds, d__law_pairs_in, d__law_all_targets, d_is_condition_value, d__law_any_condition, d_need_condition, d_does_hold, d_law]
def fa : List He.Fa := [.glo "_law_dealt", .free "range", .glo "_law_some_pairs", .glo "_law_any_condition", .glo "_law_mixed", .glo "_law_all_targets", .glo "_law_any_target", .free "enumerate", .glo "_law_holds", .free "int", .glo "does_hold", .free "repr", .glo "_law_any_word", .glo "_law_pick", .glo "_law_pairs_in", .free "sorted", .free "tuple", .glo "need_condition", .glo "need_target", .glo "is_met", .str "IS" "is", .str "NOT" "not", .glo "is_target_value", .free "isinstance", .glo "is_pair_of_words", .free "all", .free "zip", .free "len", .glo "is_name", .free "str", .int "MOST_LETTERS" (10), .str "LETTERS" "abcdefghijklmnopqrstuvwxyz", .glo "is_condition_value", .glo "JOINS", .free "list", .free "set", .glo "_law_draw", .free "max", .glo "_law_some_words", .glo "law"]
def cs : List (Str × PyData) := [("ALWAYS", (.tuple [(.str "always")]))]
def ts : List (Str × List Str) := [("JOINS", ["both", "either"])]
structure Cc (w : World) (K : PySem.W.Frag) (mg : Str → Option Value) : Prop where
  saysK : SaysK fa fn cs ts w K
  at_ : ∃ h : Heap, K.In h ∧ h.Ns mainGlobals mg
theorem Cc.saysC {w : World} {K : PySem.W.Frag} {mg : Str → Option Value} (C : Cc w K mg) : SaysC fa fn cs K := C.saysK.c
theorem Cc.says {w : World} {K : PySem.W.Frag} {mg : Str → Option Value} (C : Cc w K mg) : He.SaysD fa fn K := C.saysC.d
section
variable {P : Program} {w : World} {K : PySem.W.Frag} {mg : Str → Option Value} {base : Heap}
theorem g__law_dealt (C : Cc w K mg) : mg "_law_dealt" = some (.ref (He.ga K "_law_dealt")) := let ⟨_, X, G⟩ := C.at_; He.glo_ok X G (C.says.fact 0 rfl)
theorem g_range (C : Cc w K mg) : mg "range" = none := let ⟨_, X, G⟩ := C.at_; He.free_ok X G (C.says.fact 1 rfl)
theorem g__law_some_pairs (C : Cc w K mg) : mg "_law_some_pairs" = some (.ref (He.ga K "_law_some_pairs")) := let ⟨_, X, G⟩ := C.at_; He.glo_ok X G (C.says.fact 2 rfl)
theorem g__law_any_condition (C : Cc w K mg) : mg "_law_any_condition" = some (.ref (He.ga K "_law_any_condition")) := let ⟨_, X, G⟩ := C.at_; He.glo_ok X G (C.says.fact 3 rfl)
theorem g__law_mixed (C : Cc w K mg) : mg "_law_mixed" = some (.ref (He.ga K "_law_mixed")) := let ⟨_, X, G⟩ := C.at_; He.glo_ok X G (C.says.fact 4 rfl)
theorem g__law_all_targets (C : Cc w K mg) : mg "_law_all_targets" = some (.ref (He.ga K "_law_all_targets")) := let ⟨_, X, G⟩ := C.at_; He.glo_ok X G (C.says.fact 5 rfl)
theorem g__law_any_target (C : Cc w K mg) : mg "_law_any_target" = some (.ref (He.ga K "_law_any_target")) := let ⟨_, X, G⟩ := C.at_; He.glo_ok X G (C.says.fact 6 rfl)
theorem g_enumerate (C : Cc w K mg) : mg "enumerate" = none := let ⟨_, X, G⟩ := C.at_; He.free_ok X G (C.says.fact 7 rfl)
theorem g__law_holds (C : Cc w K mg) : mg "_law_holds" = some (.ref (He.ga K "_law_holds")) := let ⟨_, X, G⟩ := C.at_; He.glo_ok X G (C.says.fact 8 rfl)
theorem g_int (C : Cc w K mg) : mg "int" = none := let ⟨_, X, G⟩ := C.at_; He.free_ok X G (C.says.fact 9 rfl)
theorem g_does_hold (C : Cc w K mg) : mg "does_hold" = some (.ref (He.ga K "does_hold")) := let ⟨_, X, G⟩ := C.at_; He.glo_ok X G (C.says.fact 10 rfl)
theorem g_repr (C : Cc w K mg) : mg "repr" = none := let ⟨_, X, G⟩ := C.at_; He.free_ok X G (C.says.fact 11 rfl)
theorem g__law_any_word (C : Cc w K mg) : mg "_law_any_word" = some (.ref (He.ga K "_law_any_word")) := let ⟨_, X, G⟩ := C.at_; He.glo_ok X G (C.says.fact 12 rfl)
theorem g__law_pick (C : Cc w K mg) : mg "_law_pick" = some (.ref (He.ga K "_law_pick")) := let ⟨_, X, G⟩ := C.at_; He.glo_ok X G (C.says.fact 13 rfl)
theorem g__law_pairs_in (C : Cc w K mg) : mg "_law_pairs_in" = some (.ref (He.ga K "_law_pairs_in")) := let ⟨_, X, G⟩ := C.at_; He.glo_ok X G (C.says.fact 14 rfl)
theorem g_sorted (C : Cc w K mg) : mg "sorted" = none := let ⟨_, X, G⟩ := C.at_; He.free_ok X G (C.says.fact 15 rfl)
theorem g_tuple (C : Cc w K mg) : mg "tuple" = none := let ⟨_, X, G⟩ := C.at_; He.free_ok X G (C.says.fact 16 rfl)
theorem g_need_condition (C : Cc w K mg) : mg "need_condition" = some (.ref (He.ga K "need_condition")) := let ⟨_, X, G⟩ := C.at_; He.glo_ok X G (C.says.fact 17 rfl)
theorem g_need_target (C : Cc w K mg) : mg "need_target" = some (.ref (He.ga K "need_target")) := let ⟨_, X, G⟩ := C.at_; He.glo_ok X G (C.says.fact 18 rfl)
theorem g_is_met (C : Cc w K mg) : mg "is_met" = some (.ref (He.ga K "is_met")) := let ⟨_, X, G⟩ := C.at_; He.glo_ok X G (C.says.fact 19 rfl)
theorem g_IS (C : Cc w K mg) : ∃ t, mg "IS" = some (.str "is" t) := let ⟨_, X, G⟩ := C.at_; He.str_ok X G (C.says.fact 20 rfl)
theorem g_NOT (C : Cc w K mg) : ∃ t, mg "NOT" = some (.str "not" t) := let ⟨_, X, G⟩ := C.at_; He.str_ok X G (C.says.fact 21 rfl)
theorem g_is_target_value (C : Cc w K mg) : mg "is_target_value" = some (.ref (He.ga K "is_target_value")) := let ⟨_, X, G⟩ := C.at_; He.glo_ok X G (C.says.fact 22 rfl)
theorem g_isinstance (C : Cc w K mg) : mg "isinstance" = none := let ⟨_, X, G⟩ := C.at_; He.free_ok X G (C.says.fact 23 rfl)
theorem g_is_pair_of_words (C : Cc w K mg) : mg "is_pair_of_words" = some (.ref (He.ga K "is_pair_of_words")) := let ⟨_, X, G⟩ := C.at_; He.glo_ok X G (C.says.fact 24 rfl)
theorem g_all (C : Cc w K mg) : mg "all" = none := let ⟨_, X, G⟩ := C.at_; He.free_ok X G (C.says.fact 25 rfl)
theorem g_zip (C : Cc w K mg) : mg "zip" = none := let ⟨_, X, G⟩ := C.at_; He.free_ok X G (C.says.fact 26 rfl)
theorem g_len (C : Cc w K mg) : mg "len" = none := let ⟨_, X, G⟩ := C.at_; He.free_ok X G (C.says.fact 27 rfl)
theorem g_is_name (C : Cc w K mg) : mg "is_name" = some (.ref (He.ga K "is_name")) := let ⟨_, X, G⟩ := C.at_; He.glo_ok X G (C.says.fact 28 rfl)
theorem g_str (C : Cc w K mg) : mg "str" = none := let ⟨_, X, G⟩ := C.at_; He.free_ok X G (C.says.fact 29 rfl)
theorem g_MOST_LETTERS (C : Cc w K mg) : ∃ t, mg "MOST_LETTERS" = some (.int (10) t) := let ⟨_, X, G⟩ := C.at_; He.int_ok X G (C.says.fact 30 rfl)
theorem g_LETTERS (C : Cc w K mg) : ∃ t, mg "LETTERS" = some (.str "abcdefghijklmnopqrstuvwxyz" t) := let ⟨_, X, G⟩ := C.at_; He.str_ok X G (C.says.fact 31 rfl)
theorem g_is_condition_value (C : Cc w K mg) : mg "is_condition_value" = some (.ref (He.ga K "is_condition_value")) := let ⟨_, X, G⟩ := C.at_; He.glo_ok X G (C.says.fact 32 rfl)
theorem g_JOINS (C : Cc w K mg) : mg "JOINS" = some (.ref (He.ga K "JOINS")) := let ⟨_, X, G⟩ := C.at_; He.glo_ok X G (C.says.fact 33 rfl)
theorem g_list (C : Cc w K mg) : mg "list" = none := let ⟨_, X, G⟩ := C.at_; He.free_ok X G (C.says.fact 34 rfl)
theorem g_set (C : Cc w K mg) : mg "set" = none := let ⟨_, X, G⟩ := C.at_; He.free_ok X G (C.says.fact 35 rfl)
theorem g__law_draw (C : Cc w K mg) : mg "_law_draw" = some (.ref (He.ga K "_law_draw")) := let ⟨_, X, G⟩ := C.at_; He.glo_ok X G (C.says.fact 36 rfl)
theorem g_max (C : Cc w K mg) : mg "max" = none := let ⟨_, X, G⟩ := C.at_; He.free_ok X G (C.says.fact 37 rfl)
theorem g__law_some_words (C : Cc w K mg) : mg "_law_some_words" = some (.ref (He.ga K "_law_some_words")) := let ⟨_, X, G⟩ := C.at_; He.glo_ok X G (C.says.fact 38 rfl)
theorem g_law (C : Cc w K mg) : mg "law" = some (.ref (He.ga K "law")) := let ⟨_, X, G⟩ := C.at_; He.glo_ok X G (C.says.fact 39 rfl)
theorem g_ALWAYS (C : Cc w K mg) : ∃ v u, mg "ALWAYS" = some u ∧ RelV v u ∧ ∀ F, Rp K F v (.tuple [(.str "always")]) := let ⟨_, X, G⟩ := C.at_; cst_ok X G (C.saysC.cst 0 rfl)
theorem t_JOINS (C : Cc w K mg) : ∃ a, mg "JOINS" = some (.ref a) ∧ TabAt K w a ["both", "either"] := ⟨_, g_JOINS C, C.saysK.tab 0 rfl⟩
theorem bg__law_all_targets_1 {f : Addr} {fd : FuncData} (F : FnP K "_law_all_targets" s__law_all_targets DV__law_all_targets f fd) : BindG K fd P__law_all_targets 1 [] DV__law_all_targets [0] := FunD.bindG0 F fun _ _ _ _ _ _ us ws h1 h2 => match us, ws, h1, h2 with | [_], [], _, _ => rfl
theorem bg__law_any_condition_3 {f : Addr} {fd : FuncData} (F : FnP K "_law_any_condition" s__law_any_condition DV__law_any_condition f fd) : BindG K fd P__law_any_condition 3 [] DV__law_any_condition [0, 1, 2, 3] := FunD.bindG1 F (by simp) fun _ _ _ _ _ _ _ us ws its h1 h2 h3 => match us, ws, its, h1, h2, h3 with | [_, _, _], [], [_], _, _, _ => by first | exact .inl ⟨_, rfl, rfl⟩ | exact .inr rfl
theorem bg__law_any_condition_4 {f : Addr} {fd : FuncData} (F : FnP K "_law_any_condition" s__law_any_condition DV__law_any_condition f fd) : BindG K fd P__law_any_condition 4 [] DV__law_any_condition [0, 1, 2, 3] := FunD.bindG1 F (by simp) fun _ _ _ _ _ _ _ us ws its h1 h2 h3 => match us, ws, its, h1, h2, h3 with | [_, _, _, _], [], [_], _, _, _ => by first | exact .inl ⟨_, rfl, rfl⟩ | exact .inr rfl
theorem bg__law_any_target_2 {f : Addr} {fd : FuncData} (F : FnP K "_law_any_target" s__law_any_target DV__law_any_target f fd) : BindG K fd P__law_any_target 2 [] DV__law_any_target [0, 1] := FunD.bindG0 F fun _ _ _ _ _ _ us ws h1 h2 => match us, ws, h1, h2 with | [_, _], [], _, _ => rfl
theorem bg__law_any_word_1 {f : Addr} {fd : FuncData} (F : FnP K "_law_any_word" s__law_any_word DV__law_any_word f fd) : BindG K fd P__law_any_word 1 [] DV__law_any_word [0] := FunD.bindG0 F fun _ _ _ _ _ _ us ws h1 h2 => match us, ws, h1, h2 with | [_], [], _, _ => rfl
theorem bg__law_dealt_1 {f : Addr} {fd : FuncData} (F : FnP K "_law_dealt" s__law_dealt DV__law_dealt f fd) : BindG K fd P__law_dealt 1 [] DV__law_dealt [0] := FunD.bindG0 F fun _ _ _ _ _ _ us ws h1 h2 => match us, ws, h1, h2 with | [_], [], _, _ => rfl
theorem bg__law_draw_2 {f : Addr} {fd : FuncData} (F : FnP K "_law_draw" s__law_draw DV__law_draw f fd) : BindG K fd P__law_draw 2 [] DV__law_draw [0, 1] := FunD.bindG0 F fun _ _ _ _ _ _ us ws h1 h2 => match us, ws, h1, h2 with | [_, _], [], _, _ => rfl
theorem bg__law_holds_2 {f : Addr} {fd : FuncData} (F : FnP K "_law_holds" s__law_holds DV__law_holds f fd) : BindG K fd P__law_holds 2 [] DV__law_holds [0, 1] := FunD.bindG0 F fun _ _ _ _ _ _ us ws h1 h2 => match us, ws, h1, h2 with | [_, _], [], _, _ => rfl
theorem bg__law_mixed_2 {f : Addr} {fd : FuncData} (F : FnP K "_law_mixed" s__law_mixed DV__law_mixed f fd) : BindG K fd P__law_mixed 2 [] DV__law_mixed [0, 1] := FunD.bindG0 F fun _ _ _ _ _ _ us ws h1 h2 => match us, ws, h1, h2 with | [_, _], [], _, _ => rfl
theorem bg__law_pairs_in_1 {f : Addr} {fd : FuncData} (F : FnP K "_law_pairs_in" s__law_pairs_in DV__law_pairs_in f fd) : BindG K fd P__law_pairs_in 1 [] DV__law_pairs_in [0] := FunD.bindG0 F fun _ _ _ _ _ _ us ws h1 h2 => match us, ws, h1, h2 with | [_], [], _, _ => rfl
theorem bg__law_pick_2 {f : Addr} {fd : FuncData} (F : FnP K "_law_pick" s__law_pick DV__law_pick f fd) : BindG K fd P__law_pick 2 [] DV__law_pick [0, 1] := FunD.bindG0 F fun _ _ _ _ _ _ us ws h1 h2 => match us, ws, h1, h2 with | [_, _], [], _, _ => rfl
theorem bg__law_some_pairs_1 {f : Addr} {fd : FuncData} (F : FnP K "_law_some_pairs" s__law_some_pairs DV__law_some_pairs f fd) : BindG K fd P__law_some_pairs 1 [] DV__law_some_pairs [0] := FunD.bindG0 F fun _ _ _ _ _ _ us ws h1 h2 => match us, ws, h1, h2 with | [_], [], _, _ => rfl
theorem bg__law_some_words_2 {f : Addr} {fd : FuncData} (F : FnP K "_law_some_words" s__law_some_words DV__law_some_words f fd) : BindG K fd P__law_some_words 2 [] DV__law_some_words [0, 1] := FunD.bindG0 F fun _ _ _ _ _ _ us ws h1 h2 => match us, ws, h1, h2 with | [_, _], [], _, _ => rfl
theorem bg_does_hold_0_target_condition {f : Addr} {fd : FuncData} (F : FnP K "does_hold" s_does_hold DV_does_hold f fd) : BindG K fd P_does_hold 0 ["target", "condition"] DV_does_hold [1, 0] := FunD.bindG0 F fun _ _ _ _ _ _ us ws h1 h2 => match us, ws, h1, h2 with | [], [_, _], _, _ => rfl
theorem bg_does_hold_2 {f : Addr} {fd : FuncData} (F : FnP K "does_hold" s_does_hold DV_does_hold f fd) : BindG K fd P_does_hold 2 [] DV_does_hold [0, 1] := FunD.bindG0 F fun _ _ _ _ _ _ us ws h1 h2 => match us, ws, h1, h2 with | [_, _], [], _, _ => rfl
theorem bg_is_condition_value_1 {f : Addr} {fd : FuncData} (F : FnP K "is_condition_value" s_is_condition_value DV_is_condition_value f fd) : BindG K fd P_is_condition_value 1 [] DV_is_condition_value [0] := FunD.bindG0 F fun _ _ _ _ _ _ us ws h1 h2 => match us, ws, h1, h2 with | [_], [], _, _ => rfl
theorem bg_is_met_2 {f : Addr} {fd : FuncData} (F : FnP K "is_met" s_is_met DV_is_met f fd) : BindG K fd P_is_met 2 [] DV_is_met [0, 1] := FunD.bindG0 F fun _ _ _ _ _ _ us ws h1 h2 => match us, ws, h1, h2 with | [_, _], [], _, _ => rfl
theorem bg_is_name_1 {f : Addr} {fd : FuncData} (F : FnP K "is_name" s_is_name DV_is_name f fd) : BindG K fd P_is_name 1 [] DV_is_name [0] := FunD.bindG0 F fun _ _ _ _ _ _ us ws h1 h2 => match us, ws, h1, h2 with | [_], [], _, _ => rfl
theorem bg_is_pair_of_words_1 {f : Addr} {fd : FuncData} (F : FnP K "is_pair_of_words" s_is_pair_of_words DV_is_pair_of_words f fd) : BindG K fd P_is_pair_of_words 1 [] DV_is_pair_of_words [0] := FunD.bindG0 F fun _ _ _ _ _ _ us ws h1 h2 => match us, ws, h1, h2 with | [_], [], _, _ => rfl
theorem bg_is_target_value_1 {f : Addr} {fd : FuncData} (F : FnP K "is_target_value" s_is_target_value DV_is_target_value f fd) : BindG K fd P_is_target_value 1 [] DV_is_target_value [0] := FunD.bindG0 F fun _ _ _ _ _ _ us ws h1 h2 => match us, ws, h1, h2 with | [_], [], _, _ => rfl
theorem bg_need_condition_1 {f : Addr} {fd : FuncData} (F : FnP K "need_condition" s_need_condition DV_need_condition f fd) : BindG K fd P_need_condition 1 [] DV_need_condition [0] := FunD.bindG0 F fun _ _ _ _ _ _ us ws h1 h2 => match us, ws, h1, h2 with | [_], [], _, _ => rfl
theorem bg_need_target_1 {f : Addr} {fd : FuncData} (F : FnP K "need_target" s_need_target DV_need_target f fd) : BindG K fd P_need_target 1 [] DV_need_target [0] := FunD.bindG0 F fun _ _ _ _ _ _ us ws h1 h2 => match us, ws, h1, h2 with | [_], [], _, _ => rfl
def lc_is_name_1 : MO := (mLc (mIt (mVar 0)) (mN 1) mYes (mBin gIn (mVar 1) (mC (.str "abcdefghijklmnopqrstuvwxyz"))) [1])
def mb_is_name : MS := (mRet (mVal (mAnd (mIsi "str" (mVar 0)) (mAnd (mChain gLe gLe (mC (.int 1)) (mFz (mCB gLen (mCons (mVar 0) mNil))) (mC (.int 10))) (mFz (mCB gAll (mCons (mFz lc_is_name_1) mNil)))))))
def mf_is_name : MF := mFn 2 mb_is_name
theorem ok_is_name (C : Cc w K mg) : ∃ fd, FnP K "is_name" s_is_name DV_is_name (He.ga K "is_name") fd ∧ FnG P w K mg base 1 (He.ga K "is_name") fd P_is_name mf_is_name := by
  obtain ⟨fd, F⟩ := C.says.def_ 0 (d := d_is_name) rfl
  exact ⟨fd, F, fnG_of F sc_is_name fun cdv A outer s H hr hg => (b_one (s_ret (j_val (j_and (j_isi (j_var 0) (g_isinstance C) (g_str C)) (j_and (j_chain o_le o_le j_int (j_fz (j_callB c_len (g_len C) (a_cons (j_var 0) a_nil))) (j_gint (g_MOST_LETTERS C))) (j_one (j_fz (j_callB c_all (g_all C) (a_cons (j_fz (j_lc [("sign", 1)] (i_any (j_var 0)) (g_name 1 (hN := by exact fun _ => sc_is_name.nd)) ts_nil (j_cmp o_in (j_var 1) (j_gstr (g_LETTERS C))) (fun _ => blkOk_by (N := N_is_name) (sc := defScope s_is_name) (by decide +kernel)) (hN := by exact fun _ => sc_is_name.nd))) a_nil)))))))))⟩
def mb__law_dealt_1 : MS := (mFor (mIt (mFz (mScrSl 0 mP0 (mP1 (mC (.int 63)))))) (mN 2) (mAsg (mBin gMod (mFz (mCB gInt (mCons (mBin gAdd (mBin gAdd (mBin gMul (mVar 1) (mC (.int 40692))) (mBin gMod (mFz (mCB gInt (mCons (mVar 2) mNil))) (mC (.int 2305843009213693921)))) (mC (.int 7))) mNil))) (mC (.int 2305843009213693951))) (mN 1)))
def lc__law_dealt_2 : MO := (mLc (mIt (mFz (mScrSl 0 mP0 (mP1 (mC (.int 63)))))) (mN 2) mYes (mFz (mCB gInt (mCons (mVar 2) mNil))) [2])
def mb__law_dealt : MS := (mSeq (mAsg (mC (.int 1374360112001760592)) (mN 1)) (mSeq mb__law_dealt_1 (mRet (mDkNew 1 (mRev2 (mFz lc__law_dealt_2)) (mVar 1) (mC (.int 0))))))
def mf__law_dealt : MF := mFn 3 mb__law_dealt
theorem ok__law_dealt (C : Cc w K mg) : ∃ fd, FnP K "_law_dealt" s__law_dealt DV__law_dealt (He.ga K "_law_dealt") fd ∧ FnG P w K mg base 1 (He.ga K "_law_dealt") fd P__law_dealt mf__law_dealt := by
  obtain ⟨fd, F⟩ := C.says.def_ 1 (d := d__law_dealt) rfl
  exact ⟨fd, F, fnG_of F sc__law_dealt fun cdv A outer s H hr hg => (b_cons (s_asg j_int (g_name 1 (hN := by exact fun _ => sc__law_dealt.nd))) (b_cons (s_for (i_any (j_fz (j_scrSl 0 p_none (p_some j_int)))) (g_name 2 (hN := by exact fun _ => sc__law_dealt.nd)) (b_one (s_asg (j_bin o_mod (j_fz (j_callT c_int (g_int C) (a_cons (j_bin o_add (j_bin o_add (j_bin o_mul (j_var 1) j_int) (j_bin o_mod (j_fz (j_callT c_int (g_int C) (a_cons (j_var 2) a_nil))) j_int)) j_int) a_nil))) j_int) (g_name 1 (hN := by exact fun _ => sc__law_dealt.nd))))) (b_one (s_ret (j_dkNew 1 (j_rev2 (j_fz (j_lc [("cell", 2)] (i_any (j_fz (j_scrSl 0 p_none (p_some j_int)))) (g_name 2 (hN := by exact fun _ => sc__law_dealt.nd)) ts_nil (j_fz (j_callT c_int (g_int C) (a_cons (j_var 2) a_nil))) (fun _ => blkOk_by (N := N__law_dealt) (sc := defScope s__law_dealt) (by decide +kernel)) (hN := by exact fun _ => sc__law_dealt.nd)))) (j_var 1) j_int)))))⟩
def mb__law_draw_1 : MS := (mIf (mTest (mBin gGe (mVar 3) (mBin gPow (mC (.int 10)) (mC (.int 18))))) (mSeq (mDrop (mDkApp 1 0 (mBin gDiv (mVar 3) (mFz (mCB gMax2 (mCons (mC (.int 2)) (mCons (mVar 1) mNil))))))) (mRet (mVal (mBin gMod (mFz (mCB gInt (mCons (mVar 3) mNil))) (mVar 1))))) mNx)
def mb__law_draw_2 : MS := (mIf (mDkL 1 0) (mSeq (mAsg (mDkPop 1 0) (mN 3)) (mSeq mb__law_draw_1 (mAsg (mBin gAdd (mVar 2) (mBin gMod (mFz (mCB gInt (mCons (mVar 3) mNil))) (mC (.int 2147483477)))) (mN 2)))) mNx)
def mb__law_draw : MS := (mSeq (mDkSetT 1 0 (mBin gAdd (mDkT 1 0) (mC (.int 1)))) (mSeq (mAsg (mBin gAdd (mDkM 1 0) (mBin gMul (mC (.int 42043)) (mDkT 1 0))) (mN 2)) (mSeq mb__law_draw_2 (mSeq (mAsg (mBin gMod (mFz (mCB gInt (mCons (mBin gAdd (mBin gMul (mVar 2) (mC (.int 69621))) (mC (.int 59))) mNil))) (mC (.int 2305843009213693951))) (mN 2)) (mSeq (mAsg (mBin gMod (mFz (mCB gInt (mCons (mBin gAdd (mBin gAdd (mBin gMul (mVar 2) (mVar 2)) (mBin gMul (mC (.int 58391)) (mDkT 1 0))) (mC (.int 59))) mNil))) (mC (.int 2305843009213693921))) (mN 2)) (mSeq (mAsg (mBin gMod (mFz (mCB gInt (mCons (mBin gAdd (mBin gMul (mVar 2) (mC (.int 39373))) (mC (.int 11))) mNil))) (mC (.int 2305843009213693951))) (mN 2)) (mRet (mVal (mBin gMod (mFz (mCB gInt (mCons (mBin gDiv (mVar 2) (mC (.int 64))) mNil))) (mVar 1))))))))))
def mf__law_draw : MF := mFn 4 mb__law_draw
theorem ok__law_draw (C : Cc w K mg) : ∃ fd, FnP K "_law_draw" s__law_draw DV__law_draw (He.ga K "_law_draw") fd ∧ FnG P w K mg base 1 (He.ga K "_law_draw") fd P__law_draw mf__law_draw := by
  obtain ⟨fd, F⟩ := C.says.def_ 2 (d := d__law_draw) rfl
  exact ⟨fd, F, fnG_of F sc__law_draw fun cdv A outer s H hr hg => (b_cons (s_dkSetT 1 0 (j_bin o_add (j_dkT 1 0) j_int)) (b_cons (s_asg (j_bin o_add (j_dkM 1 0) (j_bin o_mul j_int (j_dkT 1 0))) (g_name 2 (hN := by exact fun _ => sc__law_draw.nd))) (b_cons (s_if (t_dkL 1 0) (b_cons (s_asg (j_dkPop 1 0) (g_name 3 (hN := by exact fun _ => sc__law_draw.nd))) (b_cons (s_if (t_cmp o_ge (j_var 3) (j_bin o_pow j_int j_int)) (b_cons (s_expr (j_dkApp 1 0 (j_bin o_div (j_var 3) (j_fz (j_callB c_max2 (g_max C) (a_cons j_int (a_cons (j_var 1) a_nil))))))) (b_one (s_ret (j_val (j_bin o_mod (j_fz (j_callT c_int (g_int C) (a_cons (j_var 3) a_nil))) (j_var 1)))))) b_nil) (b_one (s_asg (j_bin o_add (j_var 2) (j_bin o_mod (j_fz (j_callT c_int (g_int C) (a_cons (j_var 3) a_nil))) j_int)) (g_name 2 (hN := by exact fun _ => sc__law_draw.nd)))))) b_nil) (b_cons (s_asg (j_bin o_mod (j_fz (j_callT c_int (g_int C) (a_cons (j_bin o_add (j_bin o_mul (j_var 2) j_int) j_int) a_nil))) j_int) (g_name 2 (hN := by exact fun _ => sc__law_draw.nd))) (b_cons (s_asg (j_bin o_mod (j_fz (j_callT c_int (g_int C) (a_cons (j_bin o_add (j_bin o_add (j_bin o_mul (j_var 2) (j_var 2)) (j_bin o_mul j_int (j_dkT 1 0))) j_int) a_nil))) j_int) (g_name 2 (hN := by exact fun _ => sc__law_draw.nd))) (b_cons (s_asg (j_bin o_mod (j_fz (j_callT c_int (g_int C) (a_cons (j_bin o_add (j_bin o_mul (j_var 2) j_int) j_int) a_nil))) j_int) (g_name 2 (hN := by exact fun _ => sc__law_draw.nd))) (b_one (s_ret (j_val (j_bin o_mod (j_fz (j_callT c_int (g_int C) (a_cons (j_bin o_div (j_var 2) j_int) a_nil))) (j_var 1)))))))))))⟩
def mb_is_pair_of_words : MS := (mRet (mVal (mAnd (mIsi "tuple" (mVar 0)) (mAnd (mBin gEq (mFz (mCB gLen (mCons (mVar 0) mNil))) (mC (.int 2))) (mAnd (mFz (mCall mf_is_name [0] [] (mCons (mBin gIx (mVar 0) (mC (.int 0))) mNil) mNil)) (mFz (mCall mf_is_name [0] [] (mCons (mBin gIx (mVar 0) (mC (.int 1))) mNil) mNil)))))))
def mf_is_pair_of_words : MF := mFn 1 mb_is_pair_of_words
theorem ok_is_pair_of_words (C : Cc w K mg) : ∃ fd, FnP K "is_pair_of_words" s_is_pair_of_words DV_is_pair_of_words (He.ga K "is_pair_of_words") fd ∧ FnG P w K mg base 2 (He.ga K "is_pair_of_words") fd P_is_pair_of_words mf_is_pair_of_words := by
  obtain ⟨fd, F⟩ := C.says.def_ 3 (d := d_is_pair_of_words) rfl
  obtain ⟨fd_is_name, F_is_name, G_is_name⟩ := ok_is_name (P := P) (w := w) (base := base) C
  exact ⟨fd, F, fnG_of F sc_is_pair_of_words fun cdv A outer s H hr hg => (b_one (s_ret (j_val (j_and (j_isi (j_var 0) (g_isinstance C) (g_tuple C)) (j_and (j_cmp o_eq (j_fz (j_callB c_len (g_len C) (a_cons (j_var 0) a_nil))) j_int) (j_and (j_fz (j_call (ps := P_is_name) (ks := []) G_is_name F_is_name.kp (g_is_name C) (bg_is_name_1 F_is_name) (fun _ => .nil) (a_cons (j_ix (j_var 0) j_int) a_nil) k_nil (l_cons l_nil) l_nil (Nat.le_of_ble_eq_true rfl))) (j_one (j_fz (j_call (ps := P_is_name) (ks := []) G_is_name F_is_name.kp (g_is_name C) (bg_is_name_1 F_is_name) (fun _ => .nil) (a_cons (j_ix (j_var 0) j_int) a_nil) k_nil (l_cons l_nil) l_nil (Nat.le_of_ble_eq_true rfl))))))))))⟩
def mb__law_pick : MS := (mRet (mVal (mBin gIx (mVar 1) (mFz (mLend 0 mf__law_draw [0] [] (mCons (mFz (mCB gLen (mCons (mVar 1) mNil))) mNil) mNil)))))
def mf__law_pick : MF := mFn 2 mb__law_pick
theorem ok__law_pick (C : Cc w K mg) : ∃ fd, FnP K "_law_pick" s__law_pick DV__law_pick (He.ga K "_law_pick") fd ∧ FnG P w K mg base 2 (He.ga K "_law_pick") fd P__law_pick mf__law_pick := by
  obtain ⟨fd, F⟩ := C.says.def_ 4 (d := d__law_pick) rfl
  obtain ⟨fd__law_draw, F__law_draw, G__law_draw⟩ := ok__law_draw (P := P) (w := w) (base := base) C
  exact ⟨fd, F, fnG_of F sc__law_pick fun cdv A outer s H hr hg => (b_one (s_ret (j_val (j_ix (j_var 1) (j_fz (j_lend 0 (ps := P__law_draw) (ks := []) G__law_draw F__law_draw.kp (g__law_draw C) (bg__law_draw_2 F__law_draw) (fun _ => .nil) (a_cons (j_fz (j_callB c_len (g_len C) (a_cons (j_var 1) a_nil))) a_nil) k_nil (l_cons l_nil) l_nil (Nat.le_of_ble_eq_true rfl)))))))⟩
def lc__law_mixed_1 : MO := (mLc (mR1 (mCons (mFz (mCB gLen (mCons (mVar 1) mNil))) mNil)) (mN 3) mYes (mTup (mCons (mFz (mLend 0 mf__law_draw [0] [] (mCons (mC (.int 1000)) mNil) mNil)) (mCons (mVar 3) mNil))) [3])
def lc__law_mixed_2 : MO := (mLc (mIt (mVar 2)) (mTupG 2 (mN1 (mN 4) (mN1 (mN 3) mN0))) mYes (mBin gIx (mVar 1) (mVar 3)) [4, 3])
def mb__law_mixed : MS := (mSeq (mAsg (mFz (mCB gSortedB (mCons (mFz lc__law_mixed_1) mNil))) (mN 2)) (mRet lc__law_mixed_2))
def mf__law_mixed : MF := mFn 5 mb__law_mixed
theorem ok__law_mixed (C : Cc w K mg) : ∃ fd, FnP K "_law_mixed" s__law_mixed DV__law_mixed (He.ga K "_law_mixed") fd ∧ FnG P w K mg base 2 (He.ga K "_law_mixed") fd P__law_mixed mf__law_mixed := by
  obtain ⟨fd, F⟩ := C.says.def_ 5 (d := d__law_mixed) rfl
  obtain ⟨fd__law_draw, F__law_draw, G__law_draw⟩ := ok__law_draw (P := P) (w := w) (base := base) C
  exact ⟨fd, F, fnG_of F sc__law_mixed fun cdv A outer s H hr hg => (b_cons (s_asg (j_fz (j_callB c_sortedB (g_sorted C) (a_cons (j_fz (j_lc [("at", 3)] (i_range1 (a_cons (j_fz (j_callB c_len (g_len C) (a_cons (j_var 1) a_nil))) a_nil) (g_range C)) (g_name 3 (hN := by exact fun _ => sc__law_mixed.nd)) ts_nil (j_tup (a_cons (j_fz (j_lend 0 (ps := P__law_draw) (ks := []) (by exact G__law_draw) (by exact F__law_draw.kp) (by exact (g__law_draw C)) (by exact bg__law_draw_2 F__law_draw) (fun _ => .nil) (a_cons j_int a_nil) k_nil (l_cons l_nil) l_nil (Nat.le_of_ble_eq_true rfl))) (a_cons (j_var 3) a_nil))) (fun _ => blkOk_by (N := N__law_mixed) (sc := defScope s__law_mixed) (by decide +kernel)) (hN := by exact fun _ => sc__law_mixed.nd))) a_nil))) (g_name 2 (hN := by exact fun _ => sc__law_mixed.nd))) (b_one (s_ret (j_lc [("mark", 4), ("at", 3)] (i_any (j_var 2)) (g_tup (gs_cons (g_name 4 (hN := by exact fun _ => sc__law_mixed.nd)) (gs_cons (g_name 3 (hN := by exact fun _ => sc__law_mixed.nd)) gs_nil))) ts_nil (j_ix (j_var 1) (j_var 3)) (fun _ => blkOk_by (N := N__law_mixed) (sc := defScope s__law_mixed) (by decide +kernel)) (hN := by exact fun _ => sc__law_mixed.nd)))))⟩
def lc_is_target_value_1 : MO := (mLc (mIt (mVar 0)) (mN 3) mYes (mFz (mCall mf_is_pair_of_words [0] [] (mCons (mVar 3) mNil) mNil)) [3])
def mb_is_target_value_2 : MS := (mIf (mTOr (mTNot (mTest (mIsi "tuple" (mVar 0)))) (mTNot (mTest (mFz (mCB gAll (mCons (mFz lc_is_target_value_1) mNil)))))) (mRet (mVal (mC (.bool false)))) mNx)
def lc_is_target_value_3 : MO := (mLc (mZip (mCons (mVar 0) (mCons (mFz (mSl (mVar 0) (mP1 (mC (.int 1))) mP0)) mNil))) (mTupG 2 (mN1 (mN 1) (mN1 (mN 2) mN0))) mYes (mBin gLt (mBin gIx (mVar 1) (mC (.int 0))) (mBin gIx (mVar 2) (mC (.int 0)))) [1, 2])
def mb_is_target_value : MS := (mSeq mb_is_target_value_2 (mRet (mCB gAll (mCons (mFz lc_is_target_value_3) mNil))))
def mf_is_target_value : MF := mFn 4 mb_is_target_value
theorem ok_is_target_value (C : Cc w K mg) : ∃ fd, FnP K "is_target_value" s_is_target_value DV_is_target_value (He.ga K "is_target_value") fd ∧ FnG P w K mg base 3 (He.ga K "is_target_value") fd P_is_target_value mf_is_target_value := by
  obtain ⟨fd, F⟩ := C.says.def_ 6 (d := d_is_target_value) rfl
  obtain ⟨fd_is_pair_of_words, F_is_pair_of_words, G_is_pair_of_words⟩ := ok_is_pair_of_words (P := P) (w := w) (base := base) C
  exact ⟨fd, F, fnG_of F sc_is_target_value fun cdv A outer s H hr hg => (b_cons (s_if ((w_or (t_not (t_val (j_isi (j_var 0) (g_isinstance C) (g_tuple C)))) (w_or1 (t_not (t_val (j_fz (j_callB c_all (g_all C) (a_cons (j_fz (j_lc [("pair", 3)] (i_any (j_var 0)) (g_name 3 (hN := by exact fun _ => sc_is_target_value.nd)) ts_nil (j_fz (j_call (ps := P_is_pair_of_words) (ks := []) (by exact G_is_pair_of_words) (by exact F_is_pair_of_words.kp) (by exact (g_is_pair_of_words C)) (by exact bg_is_pair_of_words_1 F_is_pair_of_words) (fun _ => .nil) (a_cons (j_var 3) a_nil) k_nil (l_cons l_nil) l_nil (Nat.le_of_ble_eq_true rfl))) (fun _ => blkOk_by (N := N_is_target_value) (sc := defScope s_is_target_value) (by decide +kernel)) (hN := by exact fun _ => sc_is_target_value.nd))) a_nil)))))))).jt (b_one (s_ret (j_val j_bool))) b_nil) (b_one (s_ret (j_callB c_all (g_all C) (a_cons (j_fz (j_lc [("near", 1), ("far", 2)] (i_zip (a_cons (j_var 0) (a_cons (j_fz (j_sl (j_var 0) (p_some j_int) p_none)) a_nil)) (g_zip C)) (g_tup (gs_cons (g_name 1 (hN := by exact fun _ => sc_is_target_value.nd)) (gs_cons (g_name 2 (hN := by exact fun _ => sc_is_target_value.nd)) gs_nil))) ts_nil (j_cmp o_lt (j_ix (j_var 1) j_int) (j_ix (j_var 2) j_int)) (fun _ => blkOk_by (N := N_is_target_value) (sc := defScope s_is_target_value) (by decide +kernel)) (hN := by exact fun _ => sc_is_target_value.nd))) a_nil)))))⟩
def mb__law_any_word_1 : MS := (mIf (mTest (mBin gGt (mFz (mLend 0 mf__law_draw [0] [] (mCons (mC (.int 4)) mNil) mNil)) (mC (.int 0)))) (mRet (mLend 0 mf__law_pick [0] [] (mCons (mFz (mLst (mCons (mC (.str "os")) (mCons (mC (.str "arch")) (mCons (mC (.str "a")) (mCons (mC (.str "ab")) (mCons (mC (.str "b")) (mCons (mC (.str "zz")) (mCons (mC (.str "libc")) (mCons (mC (.str "not")) (mCons (mC (.str "always")) (mCons (mC (.str "if")) (mCons (mC (.str "zzzzzzzzzz")) (mCons (mC (.str "and")) mNil)))))))))))))) mNil) mNil)) mNx)
def lc__law_any_word_2 : MO := (mLc (mR1 (mCons (mVar 1) mNil)) (mN 2) mYes (mFz (mLend 0 mf__law_pick [0] [] (mCons (mC (.str "abcdefghijklmnopqrstuvwxyz")) mNil) mNil)) [2])
def mb__law_any_word : MS := (mSeq mb__law_any_word_1 (mSeq (mAsg (mFz (mLend 0 mf__law_pick [0] [] (mCons (mFz (mLst (mCons (mC (.int 1)) (mCons (mC (.int 2)) (mCons (mC (.int 3)) (mCons (mC (.int 5)) (mCons (mC (.int 9)) (mCons (mC (.int 10)) mNil)))))))) mNil) mNil)) (mN 1)) (mRet (mVal (mJoin (mC (.str "")) (mFz lc__law_any_word_2))))))
def mf__law_any_word : MF := mFn 3 mb__law_any_word
theorem ok__law_any_word (C : Cc w K mg) : ∃ fd, FnP K "_law_any_word" s__law_any_word DV__law_any_word (He.ga K "_law_any_word") fd ∧ FnG P w K mg base 3 (He.ga K "_law_any_word") fd P__law_any_word mf__law_any_word := by
  obtain ⟨fd, F⟩ := C.says.def_ 7 (d := d__law_any_word) rfl
  obtain ⟨fd__law_draw, F__law_draw, G__law_draw⟩ := ok__law_draw (P := P) (w := w) (base := base) C
  obtain ⟨fd__law_pick, F__law_pick, G__law_pick⟩ := ok__law_pick (P := P) (w := w) (base := base) C
  exact ⟨fd, F, fnG_of F sc__law_any_word fun cdv A outer s H hr hg => (b_cons (s_if (t_cmp o_gt (j_fz (j_lend 0 (ps := P__law_draw) (ks := []) G__law_draw F__law_draw.kp (g__law_draw C) (bg__law_draw_2 F__law_draw) (fun _ => .nil) (a_cons j_int a_nil) k_nil (l_cons l_nil) l_nil (Nat.le_of_ble_eq_true rfl))) j_int) (b_one (s_ret (j_lend 0 (ps := P__law_pick) (ks := []) G__law_pick F__law_pick.kp (g__law_pick C) (bg__law_pick_2 F__law_pick) (fun _ => .nil) (a_cons (j_fz (j_lst (a_cons j_str (a_cons j_str (a_cons j_str (a_cons j_str (a_cons j_str (a_cons j_str (a_cons j_str (a_cons j_str (a_cons j_str (a_cons j_str (a_cons j_str (a_cons j_str a_nil)))))))))))))) a_nil) k_nil (l_cons l_nil) l_nil (Nat.le_of_ble_eq_true rfl)))) b_nil) (b_cons (s_asg (j_fz (j_lend 0 (ps := P__law_pick) (ks := []) G__law_pick F__law_pick.kp (g__law_pick C) (bg__law_pick_2 F__law_pick) (fun _ => .nil) (a_cons (j_fz (j_lst (a_cons j_int (a_cons j_int (a_cons j_int (a_cons j_int (a_cons j_int (a_cons j_int a_nil)))))))) a_nil) k_nil (l_cons l_nil) l_nil (Nat.le_of_ble_eq_true rfl))) (g_name 1 (hN := by exact fun _ => sc__law_any_word.nd))) (b_one (s_ret (j_val (j_join j_str (j_fz (j_lc [("place", 2)] (i_range1 (a_cons (j_var 1) a_nil) (g_range C)) (g_name 2 (hN := by exact fun _ => sc__law_any_word.nd)) ts_nil (j_fz (j_lend 0 (ps := P__law_pick) (ks := []) (by exact G__law_pick) (by exact F__law_pick.kp) (by exact (g__law_pick C)) (by exact bg__law_pick_2 F__law_pick) (fun _ => .nil) (a_cons j_str a_nil) k_nil (l_cons l_nil) l_nil (Nat.le_of_ble_eq_true rfl))) (fun _ => blkOk_by (N := N__law_any_word) (sc := defScope s__law_any_word) (by decide +kernel)) (hN := by exact fun _ => sc__law_any_word.nd)))))))))⟩
def mb_need_target_1 : MS := (mIf (mTNot (mTest (mFz (mCall mf_is_target_value [0] [] (mCons (mVar 0) mNil) mNil)))) mBad mNx)
def mb_need_target : MS := mb_need_target_1
def mf_need_target : MF := mFn 1 mb_need_target
theorem ok_need_target (C : Cc w K mg) : ∃ fd, FnP K "need_target" s_need_target DV_need_target (He.ga K "need_target") fd ∧ FnG P w K mg base 4 (He.ga K "need_target") fd P_need_target mf_need_target := by
  obtain ⟨fd, F⟩ := C.says.def_ 8 (d := d_need_target) rfl
  obtain ⟨fd_is_target_value, F_is_target_value, G_is_target_value⟩ := ok_is_target_value (P := P) (w := w) (base := base) C
  exact ⟨fd, F, fnG_of F sc_need_target fun cdv A outer s H hr hg => (b_one (s_if (t_not (t_val (j_fz (j_call (ps := P_is_target_value) (ks := []) G_is_target_value F_is_target_value.kp (g_is_target_value C) (bg_is_target_value_1 F_is_target_value) (fun _ => .nil) (a_cons (j_var 0) a_nil) k_nil (l_cons l_nil) l_nil (Nat.le_of_ble_eq_true rfl))))) (b_one s_never) b_nil))⟩
def lc__law_some_words_1 : MO := (mLc (mR1 (mCons (mVar 1) mNil)) (mN 2) mYes (mFz (mLend 0 mf__law_any_word [] [] mNil mNil)) [2])
def mb__law_some_words : MS := (mRet (mSS2 (mFz lc__law_some_words_1)))
def mf__law_some_words : MF := mFn 3 mb__law_some_words
theorem ok__law_some_words (C : Cc w K mg) : ∃ fd, FnP K "_law_some_words" s__law_some_words DV__law_some_words (He.ga K "_law_some_words") fd ∧ FnG P w K mg base 4 (He.ga K "_law_some_words") fd P__law_some_words mf__law_some_words := by
  obtain ⟨fd, F⟩ := C.says.def_ 9 (d := d__law_some_words) rfl
  obtain ⟨fd__law_any_word, F__law_any_word, G__law_any_word⟩ := ok__law_any_word (P := P) (w := w) (base := base) C
  exact ⟨fd, F, fnG_of F sc__law_some_words fun cdv A outer s H hr hg => (b_one (s_ret (j_sortSet2 (j_fz (j_lc [("turn", 2)] (i_range1 (a_cons (j_var 1) a_nil) (g_range C)) (g_name 2 (hN := by exact fun _ => sc__law_some_words.nd)) ts_nil (j_fz (j_lend 0 (ps := P__law_any_word) (ks := []) (by exact G__law_any_word) (by exact F__law_any_word.kp) (by exact (g__law_any_word C)) (by exact bg__law_any_word_1 F__law_any_word) (fun _ => .nil) a_nil k_nil l_nil l_nil (Nat.le_of_ble_eq_true rfl))) (fun _ => blkOk_by (N := N__law_some_words) (sc := defScope s__law_some_words) (by decide +kernel)) (hN := by exact fun _ => sc__law_some_words.nd))) (g_sorted C) (g_set C))))⟩
def mb__law_any_target_1 : MS := (mTrPut 2 (mIf (mTest (mBin gGt (mFz (mLend 0 mf__law_draw [0] [] (mCons (mC (.int 6)) mNil) mNil)) (mC (.int 0)))) (mVal (mVar 4)) (mLend 0 mf__law_any_word [] [] mNil mNil)) (mVar 3))
def mb__law_any_target_2 : MS := (mIf (mTest (mBin gGt (mFz (mLend 0 mf__law_draw [0] [] (mCons (mC (.int 3)) mNil) mNil)) (mC (.int 0)))) mb__law_any_target_1 mNx)
def mb__law_any_target_3 : MS := (mFor (mIt (mFz (mLend 0 mf__law_mixed [0] [] (mCons (mVar 1) mNil) mNil))) (mTupG 2 (mN1 (mN 3) (mN1 (mN 4) mN0))) mb__law_any_target_2)
def mb__law_any_target_4 : MS := (mIf (mTest (mBin gEq (mFz (mLend 0 mf__law_draw [0] [] (mCons (mC (.int 4)) mNil) mNil)) (mC (.int 0)))) (mTrPut 2 (mLend 0 mf__law_any_word [] [] mNil mNil) (mFz (mLend 0 mf__law_any_word [] [] mNil mNil))) mNx)
def mb__law_any_target : MS := (mSeq (mOwn mTrD 2) (mSeq mb__law_any_target_3 (mSeq mb__law_any_target_4 (mFrzT 2 (mRet (mCB gTuple (mCons (mFz (mCB gSortedB (mCons (mFz (mLI (mVar 2))) mNil))) mNil)))))))
def mf__law_any_target : MF := mFn 5 mb__law_any_target
theorem ok__law_any_target (C : Cc w K mg) : ∃ fd, FnP K "_law_any_target" s__law_any_target DV__law_any_target (He.ga K "_law_any_target") fd ∧ FnG P w K mg base 4 (He.ga K "_law_any_target") fd P__law_any_target mf__law_any_target := by
  obtain ⟨fd, F⟩ := C.says.def_ 10 (d := d__law_any_target) rfl
  obtain ⟨fd__law_any_word, F__law_any_word, G__law_any_word⟩ := ok__law_any_word (P := P) (w := w) (base := base) C
  obtain ⟨fd__law_draw, F__law_draw, G__law_draw⟩ := ok__law_draw (P := P) (w := w) (base := base) C
  obtain ⟨fd__law_mixed, F__law_mixed, G__law_mixed⟩ := ok__law_mixed (P := P) (w := w) (base := base) C
  exact ⟨fd, F, fnG_of F sc__law_any_target fun cdv A outer s H hr hg => (b_cons (s_own 2 j_trD (hN := by exact fun _ => sc__law_any_target.nd)) (b_cons (s_for (i_any (j_fz (j_lend 0 (ps := P__law_mixed) (ks := []) G__law_mixed F__law_mixed.kp (g__law_mixed C) (bg__law_mixed_2 F__law_mixed) (fun _ => .nil) (a_cons (j_var 1) a_nil) k_nil (l_cons l_nil) l_nil (Nat.le_of_ble_eq_true rfl)))) (g_tup (gs_cons (g_name 3 (hN := by exact fun _ => sc__law_any_target.nd)) (gs_cons (g_name 4 (hN := by exact fun _ => sc__law_any_target.nd)) gs_nil))) (b_one (s_if (t_cmp o_gt (j_fz (j_lend 0 (ps := P__law_draw) (ks := []) G__law_draw F__law_draw.kp (g__law_draw C) (bg__law_draw_2 F__law_draw) (fun _ => .nil) (a_cons j_int a_nil) k_nil (l_cons l_nil) l_nil (Nat.le_of_ble_eq_true rfl))) j_int) (b_one (s_trPut 2 (j_ifO (t_cmp o_gt (j_fz (j_lend 0 (ps := P__law_draw) (ks := []) G__law_draw F__law_draw.kp (g__law_draw C) (bg__law_draw_2 F__law_draw) (fun _ => .nil) (a_cons j_int a_nil) k_nil (l_cons l_nil) l_nil (Nat.le_of_ble_eq_true rfl))) j_int) (j_val (j_var 4)) (j_lend 0 (ps := P__law_any_word) (ks := []) G__law_any_word F__law_any_word.kp (g__law_any_word C) (bg__law_any_word_1 F__law_any_word) (fun _ => .nil) a_nil k_nil l_nil l_nil (Nat.le_of_ble_eq_true rfl))) (j_var 3))) b_nil))) (b_cons (s_if (t_cmp o_eq (j_fz (j_lend 0 (ps := P__law_draw) (ks := []) G__law_draw F__law_draw.kp (g__law_draw C) (bg__law_draw_2 F__law_draw) (fun _ => .nil) (a_cons j_int a_nil) k_nil (l_cons l_nil) l_nil (Nat.le_of_ble_eq_true rfl))) j_int) (b_one (s_trPut 2 (j_lend 0 (ps := P__law_any_word) (ks := []) G__law_any_word F__law_any_word.kp (g__law_any_word C) (bg__law_any_word_1 F__law_any_word) (fun _ => .nil) a_nil k_nil l_nil l_nil (Nat.le_of_ble_eq_true rfl)) (j_fz (j_lend 0 (ps := P__law_any_word) (ks := []) G__law_any_word F__law_any_word.kp (g__law_any_word C) (bg__law_any_word_1 F__law_any_word) (fun _ => .nil) a_nil k_nil l_nil l_nil (Nat.le_of_ble_eq_true rfl))))) b_nil) (b_frzT 2 (b_one (s_ret (j_callT c_tuple (g_tuple C) (a_cons (j_fz (j_callB c_sortedB (g_sorted C) (a_cons (j_fz (j_listItems (j_var 2) (g_list C))) a_nil))) a_nil))))))))⟩
def lc__law_some_pairs_1 : MO := (mLc (mIt (mFz (mLend 0 mf__law_some_words [0] [] (mCons (mC (.int 2)) mNil) mNil))) (mN 3) mYes (mTup (mCons (mVar 2) (mCons (mVar 3) mNil))) [3])
def mb__law_some_pairs_2 : MS := (mFor (mIt (mFz (mLend 0 mf__law_some_words [0] [] (mCons (mFz (mLend 0 mf__law_pick [0] [] (mCons (mFz (mLst (mCons (mC (.int 1)) (mCons (mC (.int 2)) (mCons (mC (.int 2)) (mCons (mC (.int 3)) (mCons (mC (.int 4)) mNil))))))) mNil) mNil)) mNil) mNil))) (mN 2) (mDrop (mExt 1 (mFz lc__law_some_pairs_1))))
def mb__law_some_pairs : MS := (mSeq (mOwn (mLst mNil) 1) (mSeq mb__law_some_pairs_2 (mRet (mMove 1))))
def mf__law_some_pairs : MF := mFn 4 mb__law_some_pairs
theorem ok__law_some_pairs (C : Cc w K mg) : ∃ fd, FnP K "_law_some_pairs" s__law_some_pairs DV__law_some_pairs (He.ga K "_law_some_pairs") fd ∧ FnG P w K mg base 5 (He.ga K "_law_some_pairs") fd P__law_some_pairs mf__law_some_pairs := by
  obtain ⟨fd, F⟩ := C.says.def_ 11 (d := d__law_some_pairs) rfl
  obtain ⟨fd__law_pick, F__law_pick, G__law_pick⟩ := ok__law_pick (P := P) (w := w) (base := base) C
  obtain ⟨fd__law_some_words, F__law_some_words, G__law_some_words⟩ := ok__law_some_words (P := P) (w := w) (base := base) C
  exact ⟨fd, F, fnG_of F sc__law_some_pairs fun cdv A outer s H hr hg => (b_cons (s_own 1 (j_lst a_nil) (hN := by exact fun _ => sc__law_some_pairs.nd)) (b_cons (s_for (i_any (j_fz (j_lend 0 (ps := P__law_some_words) (ks := []) G__law_some_words F__law_some_words.kp (g__law_some_words C) (bg__law_some_words_2 F__law_some_words) (fun _ => .nil) (a_cons (j_fz (j_lend 0 (ps := P__law_pick) (ks := []) G__law_pick F__law_pick.kp (g__law_pick C) (bg__law_pick_2 F__law_pick) (fun _ => .nil) (a_cons (j_fz (j_lst (a_cons j_int (a_cons j_int (a_cons j_int (a_cons j_int (a_cons j_int a_nil))))))) a_nil) k_nil (l_cons l_nil) l_nil (Nat.le_of_ble_eq_true rfl))) a_nil) k_nil (l_cons l_nil) l_nil (Nat.le_of_ble_eq_true rfl)))) (g_name 2 (hN := by exact fun _ => sc__law_some_pairs.nd)) (b_one (s_expr (j_ext 1 (j_fz (j_lc [("value", 3)] (i_any (j_fz (j_lend 0 (ps := P__law_some_words) (ks := []) G__law_some_words F__law_some_words.kp (g__law_some_words C) (bg__law_some_words_2 F__law_some_words) (fun _ => .nil) (a_cons j_int a_nil) k_nil (l_cons l_nil) l_nil (Nat.le_of_ble_eq_true rfl)))) (g_name 3 (hN := by exact fun _ => sc__law_some_pairs.nd)) ts_nil (j_tup (a_cons (j_var 2) (a_cons (j_var 3) a_nil))) (fun _ => blkOk_by (N := N__law_some_pairs) (sc := defScope s__law_some_pairs) (by decide +kernel)) (hN := by exact fun _ => sc__law_some_pairs.nd))))))) (b_one (s_ret (j_move 1)))))⟩
def mb_is_met_1 (r : MF) : MS := (mIf (mTest (mBin gEq (mVar 0) (mC (.tuple [(.str "always")])))) (mRet (mVal (mC (.bool true)))) mNx)
def mb_is_met_2 (r : MF) : MS := (mIf (mTest (mBin gEq (mBin gIx (mVar 0) (mC (.int 0))) (mC (.str "is")))) (mRet (mVal (mBin gIn (mFz (mSl (mVar 0) (mP1 (mC (.int 1))) mP0)) (mVar 1)))) mNx)
def mb_is_met_3 (r : MF) : MS := (mIf (mTest (mBin gEq (mBin gIx (mVar 0) (mC (.int 0))) (mC (.str "not")))) (mRet (mVal (mNot (mFz (mCall r [0, 1] [] (mCons (mBin gIx (mVar 0) (mC (.int 1))) (mCons (mVar 1) mNil)) mNil))))) mNx)
def mb_is_met_4 (r : MF) : MS := (mIf (mTest (mBin gEq (mBin gIx (mVar 0) (mC (.int 0))) (mC (.str "both")))) (mRet (mVal (mAnd (mFz (mCall r [0, 1] [] (mCons (mBin gIx (mVar 0) (mC (.int 1))) (mCons (mVar 1) mNil)) mNil)) (mFz (mCall r [0, 1] [] (mCons (mBin gIx (mVar 0) (mC (.int 2))) (mCons (mVar 1) mNil)) mNil))))) mNx)
def mb_is_met (r : MF) : MS := (mSeq (mb_is_met_1 r) (mSeq (mb_is_met_2 r) (mSeq (mb_is_met_3 r) (mSeq (mb_is_met_4 r) (mRet (mVal (mOr (mFz (mCall r [0, 1] [] (mCons (mBin gIx (mVar 0) (mC (.int 1))) (mCons (mVar 1) mNil)) mNil)) (mFz (mCall r [0, 1] [] (mCons (mBin gIx (mVar 0) (mC (.int 2))) (mCons (mVar 1) mNil)) mNil)))))))))
def mf_is_met : Nat → MF
  | 0 => fun _ => none
  | n + 1 => mFn 2 (mb_is_met (mf_is_met n))
theorem ok_is_met (C : Cc w K mg) (n : Nat) : ∃ fd, FnP K "is_met" s_is_met DV_is_met (He.ga K "is_met") fd ∧ FnG P w K mg base (1 + n) (He.ga K "is_met") fd P_is_met (mf_is_met n) := by
  obtain ⟨fd, F⟩ := C.says.def_ 12 (d := d_is_met) rfl
  refine ⟨fd, F, ?_⟩
  induction n with
  | zero => exact FnG.never
  | succ n G_r => exact fnG_of F sc_is_met fun cdv A outer s H hr hg => (b_cons (s_if (t_cmp o_eq (j_var 0) (j_gtup (g_ALWAYS C))) (b_one (s_ret (j_val j_bool))) b_nil) (b_cons (s_if (t_cmp o_eq (j_ix (j_var 0) j_int) (j_gstr (g_IS C))) (b_one (s_ret (j_val (j_cmp o_in (j_fz (j_sl (j_var 0) (p_some j_int) p_none)) (j_var 1))))) b_nil) (b_cons (s_if (t_cmp o_eq (j_ix (j_var 0) j_int) (j_gstr (g_NOT C))) (b_one (s_ret (j_val (j_not (j_fz (j_call (ps := P_is_met) (ks := []) G_r F.kp (g_is_met C) (bg_is_met_2 F) (fun _ => .nil) (a_cons (j_ix (j_var 0) j_int) (a_cons (j_var 1) a_nil)) k_nil (l_cons (l_cons l_nil)) l_nil (Nat.le_refl _))))))) b_nil) (b_cons (s_if (t_cmp o_eq (j_ix (j_var 0) j_int) j_str) (b_one (s_ret (j_val (j_and (j_fz (j_call (ps := P_is_met) (ks := []) G_r F.kp (g_is_met C) (bg_is_met_2 F) (fun _ => .nil) (a_cons (j_ix (j_var 0) j_int) (a_cons (j_var 1) a_nil)) k_nil (l_cons (l_cons l_nil)) l_nil (Nat.le_refl _))) (j_one (j_fz (j_call (ps := P_is_met) (ks := []) G_r F.kp (g_is_met C) (bg_is_met_2 F) (fun _ => .nil) (a_cons (j_ix (j_var 0) j_int) (a_cons (j_var 1) a_nil)) k_nil (l_cons (l_cons l_nil)) l_nil (Nat.le_refl _)))))))) b_nil) (b_one (s_ret (j_val (j_or (j_fz (j_call (ps := P_is_met) (ks := []) G_r F.kp (g_is_met C) (bg_is_met_2 F) (fun _ => .nil) (a_cons (j_ix (j_var 0) j_int) (a_cons (j_var 1) a_nil)) k_nil (l_cons (l_cons l_nil)) l_nil (Nat.le_refl _))) (j_one (j_fz (j_call (ps := P_is_met) (ks := []) G_r F.kp (g_is_met C) (bg_is_met_2 F) (fun _ => .nil) (a_cons (j_ix (j_var 0) j_int) (a_cons (j_var 1) a_nil)) k_nil (l_cons (l_cons l_nil)) l_nil (Nat.le_refl _))))))))))))
def mb__law_holds_1 (r : MF) : MS := (mIf (mTest (mBin gEq (mVar 2) (mC (.str "is")))) (mRet (mVal (mBin gIn (mFz (mSl (mVar 0) (mP1 (mC (.int 1))) mP0)) (mVar 1)))) mNx)
def mb__law_holds_2 (r : MF) : MS := (mIf (mTest (mBin gEq (mVar 2) (mC (.str "not")))) (mRet (mVal (mNot (mFz (mCall r [0, 1] [] (mCons (mBin gIx (mVar 0) (mC (.int 1))) (mCons (mVar 1) mNil)) mNil))))) mNx)
def mb__law_holds_3 (r : MF) : MS := (mIf (mTest (mBin gEq (mVar 2) (mC (.str "both")))) (mRet (mVal (mAnd (mFz (mCall r [0, 1] [] (mCons (mBin gIx (mVar 0) (mC (.int 1))) (mCons (mVar 1) mNil)) mNil)) (mFz (mCall r [0, 1] [] (mCons (mBin gIx (mVar 0) (mC (.int 2))) (mCons (mVar 1) mNil)) mNil))))) mNx)
def mb__law_holds_4 (r : MF) : MS := (mIf (mTest (mBin gEq (mVar 2) (mC (.str "either")))) (mRet (mVal (mOr (mFz (mCall r [0, 1] [] (mCons (mBin gIx (mVar 0) (mC (.int 1))) (mCons (mVar 1) mNil)) mNil)) (mFz (mCall r [0, 1] [] (mCons (mBin gIx (mVar 0) (mC (.int 2))) (mCons (mVar 1) mNil)) mNil))))) mNx)
def mb__law_holds (r : MF) : MS := (mSeq (mAsg (mBin gIx (mVar 0) (mC (.int 0))) (mN 2)) (mSeq (mb__law_holds_1 r) (mSeq (mb__law_holds_2 r) (mSeq (mb__law_holds_3 r) (mSeq (mb__law_holds_4 r) (mRet (mVal (mC (.bool true)))))))))
def mf__law_holds : Nat → MF
  | 0 => fun _ => none
  | n + 1 => mFn 3 (mb__law_holds (mf__law_holds n))
theorem ok__law_holds (C : Cc w K mg) (n : Nat) : ∃ fd, FnP K "_law_holds" s__law_holds DV__law_holds (He.ga K "_law_holds") fd ∧ FnG P w K mg base (1 + n) (He.ga K "_law_holds") fd P__law_holds (mf__law_holds n) := by
  obtain ⟨fd, F⟩ := C.says.def_ 13 (d := d__law_holds) rfl
  refine ⟨fd, F, ?_⟩
  induction n with
  | zero => exact FnG.never
  | succ n G_r => exact fnG_of F sc__law_holds fun cdv A outer s H hr hg => (b_cons (s_asg (j_ix (j_var 0) j_int) (g_name 2 (hN := by exact fun _ => sc__law_holds.nd))) (b_cons (s_if (t_cmp o_eq (j_var 2) j_str) (b_one (s_ret (j_val (j_cmp o_in (j_fz (j_sl (j_var 0) (p_some j_int) p_none)) (j_var 1))))) b_nil) (b_cons (s_if (t_cmp o_eq (j_var 2) j_str) (b_one (s_ret (j_val (j_not (j_fz (j_call (ps := P__law_holds) (ks := []) G_r F.kp (g__law_holds C) (bg__law_holds_2 F) (fun _ => .nil) (a_cons (j_ix (j_var 0) j_int) (a_cons (j_var 1) a_nil)) k_nil (l_cons (l_cons l_nil)) l_nil (Nat.le_refl _))))))) b_nil) (b_cons (s_if (t_cmp o_eq (j_var 2) j_str) (b_one (s_ret (j_val (j_and (j_fz (j_call (ps := P__law_holds) (ks := []) G_r F.kp (g__law_holds C) (bg__law_holds_2 F) (fun _ => .nil) (a_cons (j_ix (j_var 0) j_int) (a_cons (j_var 1) a_nil)) k_nil (l_cons (l_cons l_nil)) l_nil (Nat.le_refl _))) (j_one (j_fz (j_call (ps := P__law_holds) (ks := []) G_r F.kp (g__law_holds C) (bg__law_holds_2 F) (fun _ => .nil) (a_cons (j_ix (j_var 0) j_int) (a_cons (j_var 1) a_nil)) k_nil (l_cons (l_cons l_nil)) l_nil (Nat.le_refl _)))))))) b_nil) (b_cons (s_if (t_cmp o_eq (j_var 2) j_str) (b_one (s_ret (j_val (j_or (j_fz (j_call (ps := P__law_holds) (ks := []) G_r F.kp (g__law_holds C) (bg__law_holds_2 F) (fun _ => .nil) (a_cons (j_ix (j_var 0) j_int) (a_cons (j_var 1) a_nil)) k_nil (l_cons (l_cons l_nil)) l_nil (Nat.le_refl _))) (j_one (j_fz (j_call (ps := P__law_holds) (ks := []) G_r F.kp (g__law_holds C) (bg__law_holds_2 F) (fun _ => .nil) (a_cons (j_ix (j_var 0) j_int) (a_cons (j_var 1) a_nil)) k_nil (l_cons (l_cons l_nil)) l_nil (Nat.le_refl _)))))))) b_nil) (b_one (s_ret (j_val j_bool))))))))
def mb__law_pairs_in_1 (r : MF) : MS := (mIf (mTest (mBin gEq (mBin gIx (mVar 0) (mC (.int 0))) (mC (.str "is")))) (mRet (mLst (mCons (mFz (mSl (mVar 0) (mP1 (mC (.int 1))) mP0)) mNil))) mNx)
def mb__law_pairs_in_2 (r : MF) : MS := (mFor (mIt (mFz (mSl (mVar 0) (mP1 (mC (.int 1))) mP0))) (mN 2) (mDrop (mExt 1 (mFz (mCall r [0] [] (mCons (mVar 2) mNil) mNil)))))
def mb__law_pairs_in (r : MF) : MS := (mSeq (mb__law_pairs_in_1 r) (mSeq (mOwn (mLst mNil) 1) (mSeq (mb__law_pairs_in_2 r) (mRet (mMove 1)))))
def mf__law_pairs_in : Nat → MF
  | 0 => fun _ => none
  | n + 1 => mFn 3 (mb__law_pairs_in (mf__law_pairs_in n))
theorem ok__law_pairs_in (C : Cc w K mg) (n : Nat) : ∃ fd, FnP K "_law_pairs_in" s__law_pairs_in DV__law_pairs_in (He.ga K "_law_pairs_in") fd ∧ FnG P w K mg base (1 + n) (He.ga K "_law_pairs_in") fd P__law_pairs_in (mf__law_pairs_in n) := by
  obtain ⟨fd, F⟩ := C.says.def_ 14 (d := d__law_pairs_in) rfl
  refine ⟨fd, F, ?_⟩
  induction n with
  | zero => exact FnG.never
  | succ n G_r => exact fnG_of F sc__law_pairs_in fun cdv A outer s H hr hg => (b_cons (s_if (t_cmp o_eq (j_ix (j_var 0) j_int) j_str) (b_one (s_ret (j_lst (a_cons (j_fz (j_sl (j_var 0) (p_some j_int) p_none)) a_nil)))) b_nil) (b_cons (s_own 1 (j_lst a_nil) (hN := by exact fun _ => sc__law_pairs_in.nd)) (b_cons (s_for (i_any (j_fz (j_sl (j_var 0) (p_some j_int) p_none))) (g_name 2 (hN := by exact fun _ => sc__law_pairs_in.nd)) (b_one (s_expr (j_ext 1 (j_fz (j_call (ps := P__law_pairs_in) (ks := []) G_r F.kp (g__law_pairs_in C) (bg__law_pairs_in_1 F) (fun _ => .nil) (a_cons (j_var 2) a_nil) k_nil (l_cons l_nil) l_nil (Nat.le_refl _))))))) (b_one (s_ret (j_move 1))))))
def mb__law_all_targets_1 : MS := (mFor (mIt (mFz (mCall (mf__law_pairs_in 40) [0] [] (mCons (mVar 1) mNil) mNil))) (mTupG 2 (mN1 (mN 2) (mN1 (mN 6) mN0))) (mSeq (mSda 4 2 7 6) mNx))
def mb__law_all_targets_2 : MS := (mFor (mIt (mVar 0)) (mN 1) mb__law_all_targets_1)
def lc__law_all_targets_3 : MO := (mLc (mIt (mVar 3)) (mN 8) mYes (mBin gAdd (mVar 8) (mTup (mCons (mTup (mCons (mVar 2) (mCons (mVar 6) mNil))) mNil))) [8])
def mb__law_all_targets_4 : MS := (mFor (mIt (mFz (mSS2 (mBin gIx2 (mVar 4) (mVar 2))))) (mN 6) (mDrop (mExt 5 (mFz lc__law_all_targets_3))))
def mb__law_all_targets_5 : MS := (mFor (mIt (mFz (mCB gSortedB (mCons (mVar 4) mNil)))) (mN 2) (mSeq (mOwn (mCB gList (mCons (mVar 3) mNil)) 5) (mSeq mb__law_all_targets_4 (mFrz 5 (mAsg (mVar 5) (mN 3))))))
def mb__law_all_targets : MS := (mSeq (mPar [3, 4] (mE1 (mVal (mFz (mLst (mCons (mTup mNil) mNil)))) (mE1 mTrD mE0))) (mSeq mb__law_all_targets_2 (mFrzT 4 (mSeq mb__law_all_targets_5 (mRet (mVal (mVar 3)))))))
def mf__law_all_targets : MF := mFn 9 mb__law_all_targets
theorem ok__law_all_targets (C : Cc w K mg) : ∃ fd, FnP K "_law_all_targets" s__law_all_targets DV__law_all_targets (He.ga K "_law_all_targets") fd ∧ FnG P w K mg base 42 (He.ga K "_law_all_targets") fd P__law_all_targets mf__law_all_targets := by
  obtain ⟨fd, F⟩ := C.says.def_ 15 (d := d__law_all_targets) rfl
  obtain ⟨fd__law_pairs_in, F__law_pairs_in, G__law_pairs_in⟩ := ok__law_pairs_in (P := P) (w := w) (base := base) C 40
  exact ⟨fd, F, fnG_of F sc__law_all_targets fun cdv A outer s H hr hg => (b_cons (s_par2 3 4 (e_cons (j_val (j_fz (j_lst (a_cons (j_tup a_nil) a_nil)))) (e_cons j_trD e_nil)) (hN := by exact fun _ => sc__law_all_targets.nd)) (b_cons (s_for (i_any (j_var 0)) (g_name 1 (hN := by exact fun _ => sc__law_all_targets.nd)) (b_one (s_for (i_any (j_fz (j_call (ps := P__law_pairs_in) (ks := []) G__law_pairs_in F__law_pairs_in.kp (g__law_pairs_in C) (bg__law_pairs_in_1 F__law_pairs_in) (fun _ => .nil) (a_cons (j_var 1) a_nil) k_nil (l_cons l_nil) l_nil (Nat.le_of_ble_eq_true rfl)))) (g_tup (gs_cons (g_name 2 (hN := by exact fun _ => sc__law_all_targets.nd)) (gs_cons (g_name 6 (hN := by exact fun _ => sc__law_all_targets.nd)) gs_nil))) (b_sda 4 2 7 6 (hnd := by exact fun _ => sc__law_all_targets.nd) b_nil)))) (b_frzT 4 (b_cons (s_for (i_any (j_fz (j_callB c_sortedB (g_sorted C) (a_cons (j_var 4) a_nil)))) (g_name 2 (hN := by exact fun _ => sc__law_all_targets.nd)) (b_cons (s_own 5 (j_callT c_list (g_list C) (a_cons (j_var 3) a_nil)) (hN := by exact fun _ => sc__law_all_targets.nd)) (b_cons (s_for (i_any (j_fz (j_sortSet2 (j_ix2 (j_var 4) (j_var 2)) (g_sorted C) (g_set C)))) (g_name 6 (hN := by exact fun _ => sc__law_all_targets.nd)) (b_one (s_expr (j_ext 5 (j_fz (j_lc [("target", 8)] (i_any (j_var 3)) (g_name 8 (hN := by exact fun _ => sc__law_all_targets.nd)) ts_nil (j_bin o_add (j_var 8) (j_tup (a_cons (j_tup (a_cons (j_var 2) (a_cons (j_var 6) a_nil))) a_nil))) (fun _ => blkOk_by (N := N__law_all_targets) (sc := defScope s__law_all_targets) (by decide +kernel)) (hN := by exact fun _ => sc__law_all_targets.nd))))))) (b_frz 5 (b_one (s_asg (j_var 5) (g_name 3 (hN := by exact fun _ => sc__law_all_targets.nd)))))))) (b_one (s_ret (j_val (j_var 3))))))))⟩
def mb_is_condition_value_1 (r : MF) : MS := (mIf (mTOr (mTNot (mTest (mIsi "tuple" (mVar 0)))) (mTOr (mTest (mBin gEq (mFz (mCB gLen (mCons (mVar 0) mNil))) (mC (.int 0)))) (mTNot (mTest (mIsi "str" (mBin gIx (mVar 0) (mC (.int 0)))))))) (mRet (mVal (mC (.bool false)))) mNx)
def mb_is_condition_value_2 (r : MF) : MS := (mIf (mTest (mBin gEq (mVar 0) (mC (.tuple [(.str "always")])))) (mRet (mVal (mC (.bool true)))) mNx)
def mb_is_condition_value_3 (r : MF) : MS := (mIf (mTest (mBin gEq (mBin gIx (mVar 0) (mC (.int 0))) (mC (.str "is")))) (mRet (mVal (mAnd (mBin gEq (mFz (mCB gLen (mCons (mVar 0) mNil))) (mC (.int 3))) (mFz (mCall mf_is_pair_of_words [0] [] (mCons (mFz (mSl (mVar 0) (mP1 (mC (.int 1))) mP0)) mNil) mNil))))) mNx)
def mb_is_condition_value_4 (r : MF) : MS := (mIf (mTest (mBin gEq (mBin gIx (mVar 0) (mC (.int 0))) (mC (.str "not")))) (mRet (mVal (mAnd (mBin gEq (mFz (mCB gLen (mCons (mVar 0) mNil))) (mC (.int 2))) (mFz (mCall r [0] [] (mCons (mBin gIx (mVar 0) (mC (.int 1))) mNil) mNil))))) mNx)
def mb_is_condition_value (r : MF) : MS := (mSeq (mb_is_condition_value_1 r) (mSeq (mb_is_condition_value_2 r) (mSeq (mb_is_condition_value_3 r) (mSeq (mb_is_condition_value_4 r) (mRet (mVal (mAnd (mInTab ["both", "either"] (mBin gIx (mVar 0) (mC (.int 0)))) (mAnd (mBin gEq (mFz (mCB gLen (mCons (mVar 0) mNil))) (mC (.int 3))) (mAnd (mFz (mCall r [0] [] (mCons (mBin gIx (mVar 0) (mC (.int 1))) mNil) mNil)) (mFz (mCall r [0] [] (mCons (mBin gIx (mVar 0) (mC (.int 2))) mNil) mNil)))))))))))
def mf_is_condition_value : Nat → MF
  | 0 => fun _ => none
  | n + 1 => mFn 1 (mb_is_condition_value (mf_is_condition_value n))
theorem ok_is_condition_value (C : Cc w K mg) (n : Nat) : ∃ fd, FnP K "is_condition_value" s_is_condition_value DV_is_condition_value (He.ga K "is_condition_value") fd ∧ FnG P w K mg base (3 + n) (He.ga K "is_condition_value") fd P_is_condition_value (mf_is_condition_value n) := by
  obtain ⟨fd, F⟩ := C.says.def_ 16 (d := d_is_condition_value) rfl
  obtain ⟨fd_is_pair_of_words, F_is_pair_of_words, G_is_pair_of_words⟩ := ok_is_pair_of_words (P := P) (w := w) (base := base) C
  refine ⟨fd, F, ?_⟩
  induction n with
  | zero => exact FnG.never
  | succ n G_r => exact fnG_of F sc_is_condition_value fun cdv A outer s H hr hg => (b_cons (s_if ((w_or (t_not (t_val (j_isi (j_var 0) (g_isinstance C) (g_tuple C)))) (w_or (t_cmp o_eq (j_fz (j_callB c_len (g_len C) (a_cons (j_var 0) a_nil))) j_int) (w_or1 (t_not (t_val (j_isi (j_ix (j_var 0) j_int) (g_isinstance C) (g_str C)))))))).jt (b_one (s_ret (j_val j_bool))) b_nil) (b_cons (s_if (t_cmp o_eq (j_var 0) (j_gtup (g_ALWAYS C))) (b_one (s_ret (j_val j_bool))) b_nil) (b_cons (s_if (t_cmp o_eq (j_ix (j_var 0) j_int) (j_gstr (g_IS C))) (b_one (s_ret (j_val (j_and (j_cmp o_eq (j_fz (j_callB c_len (g_len C) (a_cons (j_var 0) a_nil))) j_int) (j_one (j_fz (j_call (ps := P_is_pair_of_words) (ks := []) G_is_pair_of_words F_is_pair_of_words.kp (g_is_pair_of_words C) (bg_is_pair_of_words_1 F_is_pair_of_words) (fun _ => .nil) (a_cons (j_fz (j_sl (j_var 0) (p_some j_int) p_none)) a_nil) k_nil (l_cons l_nil) l_nil (Nat.le_trans (Nat.le_of_ble_eq_true rfl : 2 ≤ 3) (Nat.le_add_right _ _))))))))) b_nil) (b_cons (s_if (t_cmp o_eq (j_ix (j_var 0) j_int) (j_gstr (g_NOT C))) (b_one (s_ret (j_val (j_and (j_cmp o_eq (j_fz (j_callB c_len (g_len C) (a_cons (j_var 0) a_nil))) j_int) (j_one (j_fz (j_call (ps := P_is_condition_value) (ks := []) G_r F.kp (g_is_condition_value C) (bg_is_condition_value_1 F) (fun _ => .nil) (a_cons (j_ix (j_var 0) j_int) a_nil) k_nil (l_cons l_nil) l_nil (Nat.le_refl _)))))))) b_nil) (b_one (s_ret (j_val (j_and (j_inTab (t_JOINS C) (j_ix (j_var 0) j_int)) (j_and (j_cmp o_eq (j_fz (j_callB c_len (g_len C) (a_cons (j_var 0) a_nil))) j_int) (j_and (j_fz (j_call (ps := P_is_condition_value) (ks := []) G_r F.kp (g_is_condition_value C) (bg_is_condition_value_1 F) (fun _ => .nil) (a_cons (j_ix (j_var 0) j_int) a_nil) k_nil (l_cons l_nil) l_nil (Nat.le_refl _))) (j_one (j_fz (j_call (ps := P_is_condition_value) (ks := []) G_r F.kp (g_is_condition_value C) (bg_is_condition_value_1 F) (fun _ => .nil) (a_cons (j_ix (j_var 0) j_int) a_nil) k_nil (l_cons l_nil) l_nil (Nat.le_refl _))))))))))))))
def mb__law_any_condition_1 (r : MF) : MS := (mRet (mVal (mIf (mTOr (mTest (mBin gEqN (mVar 1) (mFz (mLst mNil)))) (mTest (mBin gEq (mFz (mLend 0 mf__law_draw [0] [] (mCons (mC (.int 8)) mNil) mNil)) (mC (.int 0))))) (mTup (mCons (mC (.str "always")) mNil)) (mBin gAdd (mTup (mCons (mC (.str "is")) mNil)) (mFz (mLend 0 mf__law_pick [0] [] (mCons (mVar 1) mNil) mNil))))))
def mb__law_any_condition_2 (r : MF) : MS := (mIf (mTOr (mTest (mBin gLt (mVar 2) (mC (.int 2)))) (mTOr (mTest (mBin gLt (mVar 3) (mC (.int 2)))) (mTest (mBin gEq (mFz (mLend 0 mf__law_draw [0] [] (mCons (mC (.int 4)) mNil) mNil)) (mC (.int 0)))))) (mb__law_any_condition_1 r) mNx)
def mb__law_any_condition_3 (r : MF) : MS := (mIf (mTOr (mTest (mBin gEq (mVar 2) (mC (.int 2)))) (mTest (mBin gEq (mFz (mLend 0 mf__law_draw [0] [] (mCons (mC (.int 3)) mNil) mNil)) (mC (.int 0))))) (mRet (mVal (mTup (mCons (mC (.str "not")) (mCons (mFz (mLend 0 r [0, 1, 2] dd__law_any_condition (mCons (mVar 1) (mCons (mBin gSub (mVar 2) (mC (.int 1))) (mCons (mBin gSub (mVar 3) (mC (.int 1))) mNil))) mNil)) mNil))))) mNx)
def mb__law_any_condition (r : MF) : MS := (mSeq (mb__law_any_condition_2 r) (mSeq (mb__law_any_condition_3 r) (mSeq (mAsg (mBin gAdd (mC (.int 1)) (mFz (mLend 0 mf__law_draw [0] [] (mCons (mBin gSub (mVar 2) (mC (.int 2))) mNil) mNil))) (mN 4)) (mSeq (mAsg (mFz (mLend 0 r [0, 1, 2] dd__law_any_condition (mCons (mVar 1) (mCons (mVar 4) (mCons (mBin gSub (mVar 3) (mC (.int 1))) mNil))) mNil)) (mN 5)) (mRet (mVal (mTup (mCons (mFz (mLend 0 mf__law_pick [0] [] (mCons (mFz (mLst (mCons (mC (.str "both")) (mCons (mC (.str "either")) mNil)))) mNil) mNil)) (mCons (mVar 5) (mCons (mFz (mLend 0 r [0, 1, 2] dd__law_any_condition (mCons (mVar 1) (mCons (mBin gSub (mBin gSub (mVar 2) (mC (.int 1))) (mVar 4)) (mCons (mBin gSub (mVar 3) (mC (.int 1))) mNil))) mNil)) mNil))))))))))
def mf__law_any_condition : Nat → MF
  | 0 => fun _ => none
  | n + 1 => mFn 6 (mb__law_any_condition (mf__law_any_condition n))
theorem ok__law_any_condition (C : Cc w K mg) (n : Nat) : ∃ fd, FnP K "_law_any_condition" s__law_any_condition DV__law_any_condition (He.ga K "_law_any_condition") fd ∧ FnG P w K mg base (3 + n) (He.ga K "_law_any_condition") fd P__law_any_condition (mf__law_any_condition n) := by
  obtain ⟨fd, F⟩ := C.says.def_ 17 (d := d__law_any_condition) rfl
  obtain ⟨fd__law_draw, F__law_draw, G__law_draw⟩ := ok__law_draw (P := P) (w := w) (base := base) C
  obtain ⟨fd__law_pick, F__law_pick, G__law_pick⟩ := ok__law_pick (P := P) (w := w) (base := base) C
  refine ⟨fd, F, ?_⟩
  induction n with
  | zero => exact FnG.never
  | succ n G_r => exact fnG_of F sc__law_any_condition fun cdv A outer s H hr hg => (b_cons (s_if ((w_or (t_cmp o_lt (j_var 2) j_int) (w_or (t_cmp o_lt (j_var 3) j_int) (w_or1 (t_cmp o_eq (j_fz (j_lend 0 (ps := P__law_draw) (ks := []) G__law_draw F__law_draw.kp (g__law_draw C) (bg__law_draw_2 F__law_draw) (fun _ => .nil) (a_cons j_int a_nil) k_nil (l_cons l_nil) l_nil (Nat.le_trans (Nat.le_of_ble_eq_true rfl : 1 ≤ 3) (Nat.le_add_right _ _)))) j_int))))).jt (b_one (s_ret (j_val (j_if ((w_or (t_cmp o_eqN (j_var 1) (j_fz (j_lst a_nil))) (w_or1 (t_cmp o_eq (j_fz (j_lend 0 (ps := P__law_draw) (ks := []) G__law_draw F__law_draw.kp (g__law_draw C) (bg__law_draw_2 F__law_draw) (fun _ => .nil) (a_cons j_int a_nil) k_nil (l_cons l_nil) l_nil (Nat.le_trans (Nat.le_of_ble_eq_true rfl : 1 ≤ 3) (Nat.le_add_right _ _)))) j_int)))).jt (j_tup (a_cons j_str a_nil)) (j_bin o_add (j_tup (a_cons j_str a_nil)) (j_fz (j_lend 0 (ps := P__law_pick) (ks := []) G__law_pick F__law_pick.kp (g__law_pick C) (bg__law_pick_2 F__law_pick) (fun _ => .nil) (a_cons (j_var 1) a_nil) k_nil (l_cons l_nil) l_nil (Nat.le_trans (Nat.le_of_ble_eq_true rfl : 2 ≤ 3) (Nat.le_add_right _ _))))))))) b_nil) (b_cons (s_if ((w_or (t_cmp o_eq (j_var 2) j_int) (w_or1 (t_cmp o_eq (j_fz (j_lend 0 (ps := P__law_draw) (ks := []) G__law_draw F__law_draw.kp (g__law_draw C) (bg__law_draw_2 F__law_draw) (fun _ => .nil) (a_cons j_int a_nil) k_nil (l_cons l_nil) l_nil (Nat.le_trans (Nat.le_of_ble_eq_true rfl : 1 ≤ 3) (Nat.le_add_right _ _)))) j_int)))).jt (b_one (s_ret (j_val (j_tup (a_cons j_str (a_cons (j_fz (j_lend 0 (ps := P__law_any_condition) (ks := []) G_r F.kp (g__law_any_condition C) (bg__law_any_condition_4 F) (fun _ => dr__law_any_condition) (a_cons (j_var 1) (a_cons (j_bin o_sub (j_var 2) j_int) (a_cons (j_bin o_sub (j_var 3) j_int) a_nil))) k_nil (l_cons (l_cons (l_cons l_nil))) l_nil (Nat.le_refl _))) a_nil)))))) b_nil) (b_cons (s_asg (j_bin o_add j_int (j_fz (j_lend 0 (ps := P__law_draw) (ks := []) G__law_draw F__law_draw.kp (g__law_draw C) (bg__law_draw_2 F__law_draw) (fun _ => .nil) (a_cons (j_bin o_sub (j_var 2) j_int) a_nil) k_nil (l_cons l_nil) l_nil (Nat.le_trans (Nat.le_of_ble_eq_true rfl : 1 ≤ 3) (Nat.le_add_right _ _))))) (g_name 4 (hN := by exact fun _ => sc__law_any_condition.nd))) (b_cons (s_asg (j_fz (j_lend 0 (ps := P__law_any_condition) (ks := []) G_r F.kp (g__law_any_condition C) (bg__law_any_condition_4 F) (fun _ => dr__law_any_condition) (a_cons (j_var 1) (a_cons (j_var 4) (a_cons (j_bin o_sub (j_var 3) j_int) a_nil))) k_nil (l_cons (l_cons (l_cons l_nil))) l_nil (Nat.le_refl _))) (g_name 5 (hN := by exact fun _ => sc__law_any_condition.nd))) (b_one (s_ret (j_val (j_tup (a_cons (j_fz (j_lend 0 (ps := P__law_pick) (ks := []) G__law_pick F__law_pick.kp (g__law_pick C) (bg__law_pick_2 F__law_pick) (fun _ => .nil) (a_cons (j_fz (j_lst (a_cons j_str (a_cons j_str a_nil)))) a_nil) k_nil (l_cons l_nil) l_nil (Nat.le_trans (Nat.le_of_ble_eq_true rfl : 2 ≤ 3) (Nat.le_add_right _ _)))) (a_cons (j_var 5) (a_cons (j_fz (j_lend 0 (ps := P__law_any_condition) (ks := []) G_r F.kp (g__law_any_condition C) (bg__law_any_condition_4 F) (fun _ => dr__law_any_condition) (a_cons (j_var 1) (a_cons (j_bin o_sub (j_bin o_sub (j_var 2) j_int) (j_var 4)) (a_cons (j_bin o_sub (j_var 3) j_int) a_nil))) k_nil (l_cons (l_cons (l_cons l_nil))) l_nil (Nat.le_refl _))) a_nil)))))))))))
def mb_need_condition_1 : MS := (mIf (mTNot (mTest (mFz (mCall (mf_is_condition_value 40) [0] [] (mCons (mVar 0) mNil) mNil)))) mBad mNx)
def mb_need_condition : MS := mb_need_condition_1
def mf_need_condition : MF := mFn 1 mb_need_condition
theorem ok_need_condition (C : Cc w K mg) : ∃ fd, FnP K "need_condition" s_need_condition DV_need_condition (He.ga K "need_condition") fd ∧ FnG P w K mg base 44 (He.ga K "need_condition") fd P_need_condition mf_need_condition := by
  obtain ⟨fd, F⟩ := C.says.def_ 18 (d := d_need_condition) rfl
  obtain ⟨fd_is_condition_value, F_is_condition_value, G_is_condition_value⟩ := ok_is_condition_value (P := P) (w := w) (base := base) C 40
  exact ⟨fd, F, fnG_of F sc_need_condition fun cdv A outer s H hr hg => (b_one (s_if (t_not (t_val (j_fz (j_call (ps := P_is_condition_value) (ks := []) G_is_condition_value F_is_condition_value.kp (g_is_condition_value C) (bg_is_condition_value_1 F_is_condition_value) (fun _ => .nil) (a_cons (j_var 0) a_nil) k_nil (l_cons l_nil) l_nil (Nat.le_of_ble_eq_true rfl))))) (b_one s_never) b_nil))⟩
def mb_does_hold : MS := (mSeq (mDrop (mCall mf_need_condition [0] [] (mCons (mVar 0) mNil) mNil)) (mSeq (mDrop (mCall mf_need_target [0] [] (mCons (mVar 1) mNil) mNil)) (mRet (mCall (mf_is_met 40) [0, 1] [] (mCons (mVar 0) (mCons (mVar 1) mNil)) mNil))))
def mf_does_hold : MF := mFn 2 mb_does_hold
theorem ok_does_hold (C : Cc w K mg) : ∃ fd, FnP K "does_hold" s_does_hold DV_does_hold (He.ga K "does_hold") fd ∧ FnG P w K mg base 45 (He.ga K "does_hold") fd P_does_hold mf_does_hold := by
  obtain ⟨fd, F⟩ := C.says.def_ 19 (d := d_does_hold) rfl
  obtain ⟨fd_is_met, F_is_met, G_is_met⟩ := ok_is_met (P := P) (w := w) (base := base) C 40
  obtain ⟨fd_need_condition, F_need_condition, G_need_condition⟩ := ok_need_condition (P := P) (w := w) (base := base) C
  obtain ⟨fd_need_target, F_need_target, G_need_target⟩ := ok_need_target (P := P) (w := w) (base := base) C
  exact ⟨fd, F, fnG_of F sc_does_hold fun cdv A outer s H hr hg => (b_cons (s_expr (j_call (ps := P_need_condition) (ks := []) G_need_condition F_need_condition.kp (g_need_condition C) (bg_need_condition_1 F_need_condition) (fun _ => .nil) (a_cons (j_var 0) a_nil) k_nil (l_cons l_nil) l_nil (Nat.le_of_ble_eq_true rfl))) (b_cons (s_expr (j_call (ps := P_need_target) (ks := []) G_need_target F_need_target.kp (g_need_target C) (bg_need_target_1 F_need_target) (fun _ => .nil) (a_cons (j_var 1) a_nil) k_nil (l_cons l_nil) l_nil (Nat.le_of_ble_eq_true rfl))) (b_one (s_ret (j_call (ps := P_is_met) (ks := []) G_is_met F_is_met.kp (g_is_met C) (bg_is_met_2 F_is_met) (fun _ => .nil) (a_cons (j_var 0) (a_cons (j_var 1) a_nil)) k_nil (l_cons (l_cons l_nil)) l_nil (Nat.le_of_ble_eq_true rfl))))))⟩
def lc_law_1 : MO := (mLc (mR1 (mCons (mC (.int 3)) mNil)) (mN 14) mYes (mFz (mLend 1 mf__law_any_target [0] [] (mCons (mVar 3) mNil) mNil)) [14])
def mb_law_2 : MS := (mAsg (mIf (mTest (mBin gEq (mBin gMod (mFz (mCB gInt (mCons (mVar 7) mNil))) (mC (.int 2))) (mC (.int 0)))) (mFz (mCall mf_does_hold [0, 1] [] (mCons (mVar 5) (mCons (mVar 8) mNil)) mNil)) (mFz (mCall mf_does_hold [1, 0] [] mNil (mCons (mVar 8) (mCons (mVar 5) mNil))))) (mN 9))
def mb_law_3 : MS := (mIf (mTest (mBin gNe (mFz (mCB gRepr (mCons (mVar 9) mNil))) (mFz (mCB gRepr (mCons (mVar 12) mNil))))) (mRet (mVal (mC (.bool false)))) mNx)
def mb_law_4 : MS := (mIf (mTest (mBin gNe (mFz (mCB gRepr (mCons (mVar 10) mNil))) (mFz (mCB gRepr (mCons (mTup (mCons (mNot (mVar 12)) (mCons (mAnd (mVar 12) (mVar 13)) (mCons (mOr (mVar 12) (mVar 13)) mNil)))) mNil))))) (mRet (mVal (mC (.bool false)))) mNx)
def mb_law_5 : MS := (mFor (mEnum2 (mCons (mVar 4) mNil)) (mTupG 2 (mN1 (mN 7) (mN1 (mN 8) mN0))) (mSeq (mPar [12, 13] (mE1 (mVal (mFz (mCall (mf__law_holds 40) [0, 1] [] (mCons (mVar 5) (mCons (mVar 8) mNil)) mNil))) (mE1 (mVal (mFz (mCall (mf__law_holds 40) [0, 1] [] (mCons (mVar 6) (mCons (mVar 8) mNil)) mNil))) mE0))) (mSeq mb_law_2 (mSeq mb_law_3 (mSeq (mAsg (mTup (mCons (mFz (mCall mf_does_hold [0, 1] [] (mCons (mTup (mCons (mC (.str "not")) (mCons (mVar 5) mNil))) (mCons (mVar 8) mNil)) mNil)) (mCons (mFz (mCall mf_does_hold [0, 1] [] (mCons (mTup (mCons (mC (.str "both")) (mCons (mVar 5) (mCons (mVar 6) mNil)))) (mCons (mVar 8) mNil)) mNil)) (mCons (mFz (mCall mf_does_hold [0, 1] [] (mCons (mTup (mCons (mC (.str "either")) (mCons (mVar 6) (mCons (mVar 5) mNil)))) (mCons (mVar 8) mNil)) mNil)) mNil)))) (mN 10)) mb_law_4)))))
def lc_law_6 : MO := (mLc (mIt (mFz (mCall (mf__law_pairs_in 40) [0] [] (mCons (mVar 5) mNil) mNil))) (mTupG 2 (mN1 (mN 15) (mN1 (mN 16) mN0))) mYes (mVar 15) [15, 16])
def lc_law_7 : MO := (mLc (mIt (mVar 8)) (mTupG 2 (mN1 (mN 15) (mN1 (mN 16) mN0))) mYes (mVar 15) [15, 16])
def mb_law_8 : MS := (mIf (mTest (mBin gNe (mFz (mCB gRepr (mCons (mFz (mCall mf_does_hold [0, 1] [] (mCons (mVar 5) (mCons (mFz (mCB gTuple (mCons (mFz (mCB gSortedB (mCons (mBin gAdd (mVar 8) (mTup (mCons (mTup (mCons (mVar 11) (mCons (mVar 11) mNil))) mNil))) mNil))) mNil))) mNil)) mNil)) mNil))) (mFz (mCB gRepr (mCons (mFz (mCall (mf__law_holds 40) [0, 1] [] (mCons (mVar 5) (mCons (mVar 8) mNil)) mNil)) mNil))))) (mRet (mVal (mC (.bool false)))) mNx)
def mb_law_9 : MS := (mIf (mTest (mBin gNotInD (mVar 11) (mBin gAdd (mFz lc_law_6) (mFz lc_law_7)))) mb_law_8 mNx)
def mb_law_10 : MS := (mFor (mR1 (mCons (mC (.int 3)) mNil)) (mN 2) (mSeq (mAsg (mFz (mLend 1 mf__law_some_pairs [] [] mNil mNil)) (mN 3)) (mSeq (mPar [5, 6] (mE1 (mVal (mFz (mLend 1 (mf__law_any_condition 40) [0, 1, 2] dd__law_any_condition (mCons (mVar 3) (mCons (mC (.int 9)) mNil)) mNil))) (mE1 (mVal (mFz (mLend 1 (mf__law_any_condition 40) [0, 1, 2] dd__law_any_condition (mCons (mVar 3) (mCons (mC (.int 2)) mNil)) mNil))) mE0))) (mSeq (mAsg (mBin gAdd (mFz (mSl (mFz (mLend 1 mf__law_mixed [0] [] (mCons (mFz (mCall mf__law_all_targets [0] [] (mCons (mFz (mLst (mCons (mVar 5) mNil))) mNil) mNil)) mNil) mNil)) mP0 (mP1 (mC (.int 4))))) (mFz lc_law_1)) (mN 4)) (mSeq mb_law_5 (mSeq (mPar [8, 11] (mE1 (mVal (mFz (mLend 1 mf__law_pick [0] [] (mCons (mVar 4) mNil) mNil))) (mE1 (mVal (mFz (mLend 1 mf__law_any_word [] [] mNil mNil))) mE0))) mb_law_9))))))
def mb_law : MS := (mSeq (mOwn (mScr 0 mf__law_dealt) 1) (mSeq mb_law_10 (mRet (mVal (mC (.bool true))))))
def mf_law : MF := mFn 17 mb_law
theorem ok_law (C : Cc w K mg) : ∃ fd, FnP K "law" s_law DV_law (He.ga K "law") fd ∧ FnG P w K mg base 46 (He.ga K "law") fd P_law mf_law := by
  obtain ⟨fd, F⟩ := C.says.def_ 20 (d := d_law) rfl
  obtain ⟨fd__law_all_targets, F__law_all_targets, G__law_all_targets⟩ := ok__law_all_targets (P := P) (w := w) (base := base) C
  obtain ⟨fd__law_any_condition, F__law_any_condition, G__law_any_condition⟩ := ok__law_any_condition (P := P) (w := w) (base := base) C 40
  obtain ⟨fd__law_any_target, F__law_any_target, G__law_any_target⟩ := ok__law_any_target (P := P) (w := w) (base := base) C
  obtain ⟨fd__law_any_word, F__law_any_word, G__law_any_word⟩ := ok__law_any_word (P := P) (w := w) (base := base) C
  obtain ⟨fd__law_dealt, F__law_dealt, G__law_dealt⟩ := ok__law_dealt (P := P) (w := w) (base := base) C
  obtain ⟨fd__law_holds, F__law_holds, G__law_holds⟩ := ok__law_holds (P := P) (w := w) (base := base) C 40
  obtain ⟨fd__law_mixed, F__law_mixed, G__law_mixed⟩ := ok__law_mixed (P := P) (w := w) (base := base) C
  obtain ⟨fd__law_pairs_in, F__law_pairs_in, G__law_pairs_in⟩ := ok__law_pairs_in (P := P) (w := w) (base := base) C 40
  obtain ⟨fd__law_pick, F__law_pick, G__law_pick⟩ := ok__law_pick (P := P) (w := w) (base := base) C
  obtain ⟨fd__law_some_pairs, F__law_some_pairs, G__law_some_pairs⟩ := ok__law_some_pairs (P := P) (w := w) (base := base) C
  obtain ⟨fd_does_hold, F_does_hold, G_does_hold⟩ := ok_does_hold (P := P) (w := w) (base := base) C
  exact ⟨fd, F, fnG_of F sc_law fun cdv A outer s H hr hg => (b_cons (s_own 1 (j_scr 0 G__law_dealt F__law_dealt.kp (g__law_dealt C) (bg__law_dealt_1 F__law_dealt) (Nat.le_of_ble_eq_true rfl)) (hN := by exact fun _ => sc_law.nd)) (b_cons (s_for (i_range1 (a_cons j_int a_nil) (g_range C)) (g_name 2 (hN := by exact fun _ => sc_law.nd)) (b_cons (s_asg (j_fz (j_lend 1 (ps := P__law_some_pairs) (ks := []) G__law_some_pairs F__law_some_pairs.kp (g__law_some_pairs C) (bg__law_some_pairs_1 F__law_some_pairs) (fun _ => .nil) a_nil k_nil l_nil l_nil (Nat.le_of_ble_eq_true rfl))) (g_name 3 (hN := by exact fun _ => sc_law.nd))) (b_cons (s_par2 5 6 (e_cons (j_val (j_fz (j_lend 1 (ps := P__law_any_condition) (ks := []) G__law_any_condition F__law_any_condition.kp (g__law_any_condition C) (bg__law_any_condition_3 F__law_any_condition) (fun _ => dr__law_any_condition) (a_cons (j_var 3) (a_cons j_int a_nil)) k_nil (l_cons (l_cons l_nil)) l_nil (Nat.le_of_ble_eq_true rfl)))) (e_cons (j_val (j_fz (j_lend 1 (ps := P__law_any_condition) (ks := []) G__law_any_condition F__law_any_condition.kp (g__law_any_condition C) (bg__law_any_condition_3 F__law_any_condition) (fun _ => dr__law_any_condition) (a_cons (j_var 3) (a_cons j_int a_nil)) k_nil (l_cons (l_cons l_nil)) l_nil (Nat.le_of_ble_eq_true rfl)))) e_nil)) (hN := by exact fun _ => sc_law.nd)) (b_cons (s_asg (j_bin o_add (j_fz (j_sl (j_fz (j_lend 1 (ps := P__law_mixed) (ks := []) G__law_mixed F__law_mixed.kp (g__law_mixed C) (bg__law_mixed_2 F__law_mixed) (fun _ => .nil) (a_cons (j_fz (j_call (ps := P__law_all_targets) (ks := []) G__law_all_targets F__law_all_targets.kp (g__law_all_targets C) (bg__law_all_targets_1 F__law_all_targets) (fun _ => .nil) (a_cons (j_fz (j_lst (a_cons (j_var 5) a_nil))) a_nil) k_nil (l_cons l_nil) l_nil (Nat.le_of_ble_eq_true rfl))) a_nil) k_nil (l_cons l_nil) l_nil (Nat.le_of_ble_eq_true rfl))) p_none (p_some j_int))) (j_fz (j_lc [("go", 14)] (i_range1 (a_cons j_int a_nil) (g_range C)) (g_name 14 (hN := by exact fun _ => sc_law.nd)) ts_nil (j_fz (j_lend 1 (ps := P__law_any_target) (ks := []) (by exact G__law_any_target) (by exact F__law_any_target.kp) (by exact (g__law_any_target C)) (by exact bg__law_any_target_2 F__law_any_target) (fun _ => .nil) (a_cons (j_var 3) a_nil) k_nil (l_cons l_nil) l_nil (Nat.le_of_ble_eq_true rfl))) (fun _ => blkOk_by (N := N_law) (sc := defScope s_law) (by decide +kernel)) (hN := by exact fun _ => sc_law.nd)))) (g_name 4 (hN := by exact fun _ => sc_law.nd))) (b_cons (s_for (i_enum2 (a_cons (j_var 4) a_nil) (g_enumerate C)) (g_tup (gs_cons (g_name 7 (hN := by exact fun _ => sc_law.nd)) (gs_cons (g_name 8 (hN := by exact fun _ => sc_law.nd)) gs_nil))) (b_cons (s_par2 12 13 (e_cons (j_val (j_fz (j_call (ps := P__law_holds) (ks := []) G__law_holds F__law_holds.kp (g__law_holds C) (bg__law_holds_2 F__law_holds) (fun _ => .nil) (a_cons (j_var 5) (a_cons (j_var 8) a_nil)) k_nil (l_cons (l_cons l_nil)) l_nil (Nat.le_of_ble_eq_true rfl)))) (e_cons (j_val (j_fz (j_call (ps := P__law_holds) (ks := []) G__law_holds F__law_holds.kp (g__law_holds C) (bg__law_holds_2 F__law_holds) (fun _ => .nil) (a_cons (j_var 6) (a_cons (j_var 8) a_nil)) k_nil (l_cons (l_cons l_nil)) l_nil (Nat.le_of_ble_eq_true rfl)))) e_nil)) (hN := by exact fun _ => sc_law.nd)) (b_cons (s_asg (j_if (t_cmp o_eq (j_bin o_mod (j_fz (j_callT c_int (g_int C) (a_cons (j_var 7) a_nil))) j_int) j_int) (j_fz (j_call (ps := P_does_hold) (ks := []) G_does_hold F_does_hold.kp (g_does_hold C) (bg_does_hold_2 F_does_hold) (fun _ => .nil) (a_cons (j_var 5) (a_cons (j_var 8) a_nil)) k_nil (l_cons (l_cons l_nil)) l_nil (Nat.le_of_ble_eq_true rfl))) (j_fz (j_call0 (ps := P_does_hold) (ks := ["target", "condition"]) G_does_hold F_does_hold.kp (g_does_hold C) (bg_does_hold_0_target_condition F_does_hold) (fun _ => .nil) (k_cons (j_var 8) (k_cons (j_var 5) k_nil)) (l_cons (l_cons l_nil)) (Nat.le_of_ble_eq_true rfl)))) (g_name 9 (hN := by exact fun _ => sc_law.nd))) (b_cons (s_if (t_cmp o_ne (j_fz (j_callB c_repr (g_repr C) (a_cons (j_var 9) a_nil))) (j_fz (j_callB c_repr (g_repr C) (a_cons (j_var 12) a_nil)))) (b_one (s_ret (j_val j_bool))) b_nil) (b_cons (s_asg (j_tup (a_cons (j_fz (j_call (ps := P_does_hold) (ks := []) G_does_hold F_does_hold.kp (g_does_hold C) (bg_does_hold_2 F_does_hold) (fun _ => .nil) (a_cons (j_tup (a_cons j_str (a_cons (j_var 5) a_nil))) (a_cons (j_var 8) a_nil)) k_nil (l_cons (l_cons l_nil)) l_nil (Nat.le_of_ble_eq_true rfl))) (a_cons (j_fz (j_call (ps := P_does_hold) (ks := []) G_does_hold F_does_hold.kp (g_does_hold C) (bg_does_hold_2 F_does_hold) (fun _ => .nil) (a_cons (j_tup (a_cons j_str (a_cons (j_var 5) (a_cons (j_var 6) a_nil)))) (a_cons (j_var 8) a_nil)) k_nil (l_cons (l_cons l_nil)) l_nil (Nat.le_of_ble_eq_true rfl))) (a_cons (j_fz (j_call (ps := P_does_hold) (ks := []) G_does_hold F_does_hold.kp (g_does_hold C) (bg_does_hold_2 F_does_hold) (fun _ => .nil) (a_cons (j_tup (a_cons j_str (a_cons (j_var 6) (a_cons (j_var 5) a_nil)))) (a_cons (j_var 8) a_nil)) k_nil (l_cons (l_cons l_nil)) l_nil (Nat.le_of_ble_eq_true rfl))) a_nil)))) (g_name 10 (hN := by exact fun _ => sc_law.nd))) (b_one (s_if (t_cmp o_ne (j_fz (j_callB c_repr (g_repr C) (a_cons (j_var 10) a_nil))) (j_fz (j_callB c_repr (g_repr C) (a_cons (j_tup (a_cons (j_not (j_var 12)) (a_cons (j_and (j_var 12) (j_one (j_var 13))) (a_cons (j_or (j_var 12) (j_one (j_var 13))) a_nil)))) a_nil)))) (b_one (s_ret (j_val j_bool))) b_nil))))))) (b_cons (s_par2 8 11 (e_cons (j_val (j_fz (j_lend 1 (ps := P__law_pick) (ks := []) G__law_pick F__law_pick.kp (g__law_pick C) (bg__law_pick_2 F__law_pick) (fun _ => .nil) (a_cons (j_var 4) a_nil) k_nil (l_cons l_nil) l_nil (Nat.le_of_ble_eq_true rfl)))) (e_cons (j_val (j_fz (j_lend 1 (ps := P__law_any_word) (ks := []) G__law_any_word F__law_any_word.kp (g__law_any_word C) (bg__law_any_word_1 F__law_any_word) (fun _ => .nil) a_nil k_nil l_nil l_nil (Nat.le_of_ble_eq_true rfl)))) e_nil)) (hN := by exact fun _ => sc_law.nd)) (b_one (s_if (t_cmp o_notIn (j_var 11) (j_bin o_add (j_fz (j_lc [("key", 15), ("value", 16)] (i_any (j_fz (j_call (ps := P__law_pairs_in) (ks := []) G__law_pairs_in F__law_pairs_in.kp (g__law_pairs_in C) (bg__law_pairs_in_1 F__law_pairs_in) (fun _ => .nil) (a_cons (j_var 5) a_nil) k_nil (l_cons l_nil) l_nil (Nat.le_of_ble_eq_true rfl)))) (g_tup (gs_cons (g_name 15 (hN := by exact fun _ => sc_law.nd)) (gs_cons (g_name 16 (hN := by exact fun _ => sc_law.nd)) gs_nil))) ts_nil (j_var 15) (fun _ => blkOk_by (N := N_law) (sc := defScope s_law) (by decide +kernel)) (hN := by exact fun _ => sc_law.nd))) (j_fz (j_lc [("key", 15), ("value", 16)] (i_any (j_var 8)) (g_tup (gs_cons (g_name 15 (hN := by exact fun _ => sc_law.nd)) (gs_cons (g_name 16 (hN := by exact fun _ => sc_law.nd)) gs_nil))) ts_nil (j_var 15) (fun _ => blkOk_by (N := N_law) (sc := defScope s_law) (by decide +kernel)) (hN := by exact fun _ => sc_law.nd))))) (b_one (s_if (t_cmp o_ne (j_fz (j_callB c_repr (g_repr C) (a_cons (j_fz (j_call (ps := P_does_hold) (ks := []) G_does_hold F_does_hold.kp (g_does_hold C) (bg_does_hold_2 F_does_hold) (fun _ => .nil) (a_cons (j_var 5) (a_cons (j_fz (j_callT c_tuple (g_tuple C) (a_cons (j_fz (j_callB c_sortedB (g_sorted C) (a_cons (j_bin o_add (j_var 8) (j_tup (a_cons (j_tup (a_cons (j_var 11) (a_cons (j_var 11) a_nil))) a_nil))) a_nil))) a_nil))) a_nil)) k_nil (l_cons (l_cons l_nil)) l_nil (Nat.le_of_ble_eq_true rfl))) a_nil))) (j_fz (j_callB c_repr (g_repr C) (a_cons (j_fz (j_call (ps := P__law_holds) (ks := []) G__law_holds F__law_holds.kp (g__law_holds C) (bg__law_holds_2 F__law_holds) (fun _ => .nil) (a_cons (j_var 5) (a_cons (j_var 8) a_nil)) k_nil (l_cons (l_cons l_nil)) l_nil (Nat.le_of_ble_eq_true rfl))) a_nil)))) (b_one (s_ret (j_val j_bool))) b_nil)) b_nil)))))))) (b_one (s_ret (j_val j_bool)))))⟩
end
abbrev R : PySem.W.OpenRow := PySem.W.OpenLaw.row PySem.Challenge.rw_facejudge_k16_whole_conditions_by_their
abbrev hk : PySem.W.Hook := Fj.hookK 7 fa fn cs ts
def ob (s : PySem.W.SharedT) : Fj.AlK := Fj.obsKG 7 fa fn cs ts (HandSHeadRun.getT s)
theorem ob_eq (s : PySem.W.SharedT) : ob s = hk.obs s.abs := Fj.obsKG_eq (HandSHeadRun.getT_eq s)
def names : List Str := (["VersionError", "BadCondition", "BadTarget", "LETTERS", "MOST_LETTERS", "is_name", "ALWAYS", "IS", "NOT", "JOINS", "is_pair_of_words", "is_target_value", "is_condition_value", "need_target", "need_condition", "is_met"] : List Str) ++ (["does_hold", "_law_dealt", "_law_draw", "_law_pick", "_law_mixed", "_law_any_word", "_law_some_words", "_law_any_condition", "_law_some_pairs", "_law_any_target", "_law_holds", "_law_pairs_in", "_law_all_targets"] : List Str)
theorem run_false (w : World) : HandSHeadRun.RunEq R (PySem.W.view R.prog [34]) hk ob 2500 names (w.withFollow "special-get-raises" false) := by
  intro os
  kernel_rfl
theorem run_true (w : World) : HandSHeadRun.RunEq R (PySem.W.view R.prog [34]) hk ob 2500 names (w.withFollow "special-get-raises" true) := by
  intro os
  kernel_rfl
theorem run (w : World) : HandSHeadRun.RunEq R (PySem.W.view R.prog [34]) hk ob 2500 names w := PySem.W.byRow2 "special-get-raises" (P := fun w => HandSHeadRun.RunEq R (PySem.W.view R.prog [34]) hk ob 2500 names w) run_false run_true w
theorem facts {P : Program} {w : World} {K : PySem.W.Frag} {h : Heap} {mg : Str → Option Value} {f : Addr} (X : K.In h) (G : h.Ns mainGlobals mg) (hfa : mg ("law" : Str) = some (.ref f)) (c : SaysK fa fn cs ts w K) :
    ∃ fd : FuncData, (∀ (s : Shared) (v : Value), BindsTo s fd ⟨[v], []⟩ [("script", v)]) ∧ ∀ base : Heap, FnG P w K mg base 46 f fd ["script"] mf_law := by
  have C : Cc w K mg := ⟨c, h, X, G⟩
  obtain ⟨fd, F⟩ := c.c.d.def_ 20 (d := d_law) rfl
  have e := hfa.symm.trans (g_law C)
  cases e
  have b := FunD.bindsA (ps := ["script"]) F fun _ _ _ _ _ _ us hl => match us, hl with | [_], _ => rfl
  refine ⟨fd, fun s v => b s [v] rfl, fun base => ?_⟩
  obtain ⟨fd2, F2, G2⟩ := ok_law (P := P) (w := w) (base := base) C
  have e : fd2 = fd := FunD.same F2 F
  subst e
  exact G2
end
end L_k16

set_option maxRecDepth 100000
set_option maxHeartbeats 0
set_option linter.all false
set_option linter.unusedSimpArgs false
namespace L_k16
open PySem PySem.Spec PyProof.Rows L2 Fj
theorem draw_ok : DrawS 1 mf__law_draw := by
  intro n l m t below hd hn hb hb2
  obtain ⟨h1, h2, h3, h4, h5⟩ := hd
  have ml : (if below > 2 then below else 2) < 2 ^ 120 ∧ 0 < (if below > 2 then below else 2) := by split <;> omega
  rcases List.eq_nil_or_concat l with rfl | ⟨l1, x, rfl⟩
  · simp (config := {maxSteps := 1000000}) only [mf__law_draw, mb__law_draw, mb__law_draw_2, mb__law_draw_1, Fj.wp0, Fj.wp1, Fj.wp2, Fj.wp3, Fj.wp4, Fj.wp5, Fj.wp6, Fj.wp7, Fj.wp8, Fj.wp9, Fj.wp10, Fj.wp11, Fj.wp12, Fj.wp13, Fj.wp14, Fj.wp15, Fj.wp16, Fj.wp17, Fj.wp18, Fj.wp19, Fj.wp20, Fj.wp21, Fj.wpz, Fj.wq0, Fj.wq1, Fj.wq2, Fj.tyN, Int.reduceEq, Int.reduceLT, Int.reduceLE, Int.reduceAdd, Int.reduceSub, Int.reduceMul, Int.reduceNeg, Int.reducePow, Int.reduceToNat, Int.reduceMod, Int.reduceDiv, Int.reduceNe, Nat.reduceEqDiff, Nat.reduceMul, borOk, dkAll, dkKept, nlD, nlAll, id, frz, freeE, outsE, pick, merE, wipeE, Nat.reduceAdd, Nat.reduceSub, Nat.reduceLeDiff, Nat.reduceLT, reduceCtorEq, if_true, if_false, eq_self, forall_const, Bool.false_and, frzT, String.reduceEq]
    repeat' first
      | exact mulCi (by omega) (by omega) (by omega) (by omega)
      | exact divCi (by omega) (by omega)
      | exact dk_end hb ⟨by omega, by omega, by omega, by omega, by simp⟩
      | omega
      | refine And.intro ?_ ?_
  · have h6 : l1.length + 1 ≤ 63 := by simpa using h5
    have e1 : (l1 ++ [x]).isEmpty = false := by simp
    simp (config := {maxSteps := 1000000}) only [mf__law_draw, mb__law_draw, mb__law_draw_2, mb__law_draw_1, List.concat_eq_append, List.getLast?_concat, List.dropLast_concat, e1, Fj.wp0, Fj.wp1, Fj.wp2, Fj.wp3, Fj.wp4, Fj.wp5, Fj.wp6, Fj.wp7, Fj.wp8, Fj.wp9, Fj.wp10, Fj.wp11, Fj.wp12, Fj.wp13, Fj.wp14, Fj.wp15, Fj.wp16, Fj.wp17, Fj.wp18, Fj.wp19, Fj.wp20, Fj.wp21, Fj.wpz, Fj.wq0, Fj.wq1, Fj.wq2, Fj.tyN, Int.reduceEq, Int.reduceLT, Int.reduceLE, Int.reduceAdd, Int.reduceSub, Int.reduceMul, Int.reduceNeg, Int.reducePow, Int.reduceToNat, Int.reduceMod, Int.reduceDiv, Int.reduceNe, Nat.reduceEqDiff, Nat.reduceMul, borOk, dkAll, dkKept, nlD, nlAll, id, frz, freeE, outsE, pick, merE, wipeE, Nat.reduceAdd, Nat.reduceSub, Nat.reduceLeDiff, Nat.reduceLT, reduceCtorEq, if_true, if_false, eq_self, forall_const, Bool.false_and, frzT, String.reduceEq]
    repeat' first
      | exact mulCi (by omega) (by omega) (by omega) (by omega)
      | exact divCi (by omega) (by omega)
      | exact divCi ml.2 ml.1
      | exact dk_end hb ⟨by omega, by omega, by omega, by omega, by first | omega | (simp; omega)⟩
      | decide
      | (refine IfB.mk (fun _ => ?_) (fun _ => ?_) <;> simp (config := {maxSteps := 1000000}) only [Fj.wp0, Fj.wp1, Fj.wp2, Fj.wp3, Fj.wp4, Fj.wp5, Fj.wp6, Fj.wp7, Fj.wp8, Fj.wp9, Fj.wp10, Fj.wp11, Fj.wp12, Fj.wp13, Fj.wp14, Fj.wp15, Fj.wp16, Fj.wp17, Fj.wp18, Fj.wp19, Fj.wp20, Fj.wp21, Fj.wpz, Fj.wq0, Fj.wq1, Fj.wq2, Fj.tyN, Int.reduceEq, Int.reduceLT, Int.reduceLE, Int.reduceAdd, Int.reduceSub, Int.reduceMul, Int.reduceNeg, Int.reducePow, Int.reduceToNat, Int.reduceMod, Int.reduceDiv, Int.reduceNe, Nat.reduceEqDiff, Nat.reduceMul, borOk, dkAll, dkKept, nlD, nlAll, id, frz, freeE, outsE, pick, merE, wipeE, Nat.reduceAdd, Nat.reduceSub, Nat.reduceLeDiff, Nat.reduceLT, reduceCtorEq, if_true, if_false, eq_self, forall_const, Bool.false_and, frzT, String.reduceEq])
      | refine And.intro ?_ ?_
      | omega
theorem pick_ok : PickS 1 mf__law_pick := by
  intro n l m t ds hd hn hne hlen
  have hl : 0 < ds.length := List.length_pos_iff.mpr hne
  simp (config := {maxSteps := 1000000}) only [mf__law_pick, mb__law_pick, Fj.wp0, Fj.wp1, Fj.wp2, Fj.wp3, Fj.wp4, Fj.wp5, Fj.wp6, Fj.wp7, Fj.wp8, Fj.wp9, Fj.wp10, Fj.wp11, Fj.wp12, Fj.wp13, Fj.wp14, Fj.wp15, Fj.wp16, Fj.wp17, Fj.wp18, Fj.wp19, Fj.wp20, Fj.wp21, Fj.wpz, Fj.wq0, Fj.wq1, Fj.wq2, Fj.tyN, Int.reduceEq, Int.reduceLT, Int.reduceLE, Int.reduceAdd, Int.reduceSub, Int.reduceMul, Int.reduceNeg, Int.reducePow, Int.reduceToNat, Int.reduceMod, Int.reduceDiv, Int.reduceNe, Nat.reduceEqDiff, Nat.reduceMul, borOk, dkAll, dkKept, nlD, nlAll, id, frz, freeE, outsE, pick, merE, wipeE, Nat.reduceAdd, Nat.reduceSub, Nat.reduceLeDiff, Nat.reduceLT, reduceCtorEq, if_true, if_false, eq_self, forall_const, Bool.false_and, frzT, String.reduceEq]
  refine (draw_ok n l m t ds.length hd hn (by omega) (by omega)).mono ?_
  rintro _ _ ⟨r, l', m', t', o, rfl, h1, h2, rfl, h3⟩
  obtain ⟨d, e, hm, _⟩ := atI_mem h1 h2
  simp (config := {maxSteps := 1000000}) only [e, Fj.wp0, Fj.wp1, Fj.wp2, Fj.wp3, Fj.wp4, Fj.wp5, Fj.wp6, Fj.wp7, Fj.wp8, Fj.wp9, Fj.wp10, Fj.wp11, Fj.wp12, Fj.wp13, Fj.wp14, Fj.wp15, Fj.wp16, Fj.wp17, Fj.wp18, Fj.wp19, Fj.wp20, Fj.wp21, Fj.wpz, Fj.wq0, Fj.wq1, Fj.wq2, Fj.tyN, Int.reduceEq, Int.reduceLT, Int.reduceLE, Int.reduceAdd, Int.reduceSub, Int.reduceMul, Int.reduceNeg, Int.reducePow, Int.reduceToNat, Int.reduceMod, Int.reduceDiv, Int.reduceNe, Nat.reduceEqDiff, Nat.reduceMul, borOk, dkAll, dkKept, nlD, nlAll, id, frz, freeE, outsE, pick, merE, wipeE, Nat.reduceAdd, Nat.reduceSub, Nat.reduceLeDiff, Nat.reduceLT, reduceCtorEq, if_true, if_false, eq_self, forall_const, Bool.false_and, frzT, String.reduceEq]
  exact ⟨d, l', m', t', [Ent.no], hm, rfl, rfl, h3⟩
def PickT (s : Nat) (f : MF) : Prop := ∀ (n : Nat) (l : List Int) (m t : Int) (ds : List PyData), DkOk n l m t → n < 2 ^ 64 → ds ≠ [] → ds.length ≤ 100000 → W (f [.own false (.deck s l m t), .val (.tuple ds)]) fun e outs => ∃ d l' m' t' o, d ∈ ds ∧ e = .val d ∧ outs = .own false (.deck s l' m' t') :: o ∧ DkOk (n + 1) l' m' t'
theorem pickT_ok : PickT 1 mf__law_pick := by
  intro n l m t ds hd hn hne hlen
  have hl : 0 < ds.length := List.length_pos_iff.mpr hne
  simp (config := {maxSteps := 1000000}) only [mf__law_pick, mb__law_pick, Fj.wp0, Fj.wp1, Fj.wp2, Fj.wp3, Fj.wp4, Fj.wp5, Fj.wp6, Fj.wp7, Fj.wp8, Fj.wp9, Fj.wp10, Fj.wp11, Fj.wp12, Fj.wp13, Fj.wp14, Fj.wp15, Fj.wp16, Fj.wp17, Fj.wp18, Fj.wp19, Fj.wp20, Fj.wp21, Fj.wpz, Fj.wq0, Fj.wq1, Fj.wq2, Fj.tyN, Int.reduceEq, Int.reduceLT, Int.reduceLE, Int.reduceAdd, Int.reduceSub, Int.reduceMul, Int.reduceNeg, Int.reducePow, Int.reduceToNat, Int.reduceMod, Int.reduceDiv, Int.reduceNe, Nat.reduceEqDiff, Nat.reduceMul, borOk, dkAll, dkKept, nlD, nlAll, id, frz, freeE, outsE, pick, merE, wipeE, Nat.reduceAdd, Nat.reduceSub, Nat.reduceLeDiff, Nat.reduceLT, reduceCtorEq, if_true, if_false, eq_self, forall_const, Bool.false_and, frzT, String.reduceEq]
  refine (draw_ok n l m t ds.length hd hn (by omega) (by omega)).mono ?_
  rintro _ _ ⟨r, l', m', t', o, rfl, h1, h2, rfl, h3⟩
  obtain ⟨d, e, hm, _⟩ := atI_mem h1 h2
  simp (config := {maxSteps := 1000000}) only [e, Fj.wp0, Fj.wp1, Fj.wp2, Fj.wp3, Fj.wp4, Fj.wp5, Fj.wp6, Fj.wp7, Fj.wp8, Fj.wp9, Fj.wp10, Fj.wp11, Fj.wp12, Fj.wp13, Fj.wp14, Fj.wp15, Fj.wp16, Fj.wp17, Fj.wp18, Fj.wp19, Fj.wp20, Fj.wp21, Fj.wpz, Fj.wq0, Fj.wq1, Fj.wq2, Fj.tyN, Int.reduceEq, Int.reduceLT, Int.reduceLE, Int.reduceAdd, Int.reduceSub, Int.reduceMul, Int.reduceNeg, Int.reducePow, Int.reduceToNat, Int.reduceMod, Int.reduceDiv, Int.reduceNe, Nat.reduceEqDiff, Nat.reduceMul, borOk, dkAll, dkKept, nlD, nlAll, id, frz, freeE, outsE, pick, merE, wipeE, Nat.reduceAdd, Nat.reduceSub, Nat.reduceLeDiff, Nat.reduceLT, reduceCtorEq, if_true, if_false, eq_self, forall_const, Bool.false_and, frzT, String.reduceEq]
  exact ⟨d, l', m', t', [Ent.no], hm, rfl, rfl, h3⟩
theorem deck_ok : DeckS 1 mf__law_dealt := by
  intro ns hn
  have hl : (ns.map PyData.int).length ≤ 63 := by rw [List.length_map]; exact hn
  have hc := cut63 hl
  simp (config := {maxSteps := 1000000}) only [mf__law_dealt, mb__law_dealt, mb__law_dealt_1, hc, Fj.wp0, Fj.wp1, Fj.wp2, Fj.wp3, Fj.wp4, Fj.wp5, Fj.wp6, Fj.wp7, Fj.wp8, Fj.wp9, Fj.wp10, Fj.wp11, Fj.wp12, Fj.wp13, Fj.wp14, Fj.wp15, Fj.wp16, Fj.wp17, Fj.wp18, Fj.wp19, Fj.wp20, Fj.wp21, Fj.wpz, Fj.wq0, Fj.wq1, Fj.wq2, Fj.tyN, Int.reduceEq, Int.reduceLT, Int.reduceLE, Int.reduceAdd, Int.reduceSub, Int.reduceMul, Int.reduceNeg, Int.reducePow, Int.reduceToNat, Int.reduceMod, Int.reduceDiv, Int.reduceNe, Nat.reduceEqDiff, Nat.reduceMul, borOk, dkAll, dkKept, nlD, nlAll, id, frz, freeE, outsE, pick, merE, wipeE, Nat.reduceAdd, Nat.reduceSub, Nat.reduceLeDiff, Nat.reduceLT, reduceCtorEq, if_true, if_false, eq_self, forall_const, Bool.false_and, frzT, String.reduceEq]
  refine w_forL (fun ds ρ => (∃ js : List Int, ds = js.map .int) ∧ ∃ m e, 0 ≤ m ∧ m < 4611686018427387904 ∧ pinE e = false ∧ ρ = [.scr ns, .val (.int m), e]) ?_ ?_ _ _ ⟨⟨ns, rfl⟩, _, _, by decide, by decide, rfl, rfl⟩
  · rintro d ds ρ ⟨⟨js, e⟩, m, e2, h1, h2, h3, rfl⟩
    cases js with
    | nil => cases e
    | cons j js =>
      cases e
      simp (config := {maxSteps := 1000000}) only [h3, Fj.wp0, Fj.wp1, Fj.wp2, Fj.wp3, Fj.wp4, Fj.wp5, Fj.wp6, Fj.wp7, Fj.wp8, Fj.wp9, Fj.wp10, Fj.wp11, Fj.wp12, Fj.wp13, Fj.wp14, Fj.wp15, Fj.wp16, Fj.wp17, Fj.wp18, Fj.wp19, Fj.wp20, Fj.wp21, Fj.wpz, Fj.wq0, Fj.wq1, Fj.wq2, Fj.tyN, Int.reduceEq, Int.reduceLT, Int.reduceLE, Int.reduceAdd, Int.reduceSub, Int.reduceMul, Int.reduceNeg, Int.reducePow, Int.reduceToNat, Int.reduceMod, Int.reduceDiv, Int.reduceNe, Nat.reduceEqDiff, Nat.reduceMul, borOk, dkAll, dkKept, nlD, nlAll, id, frz, freeE, outsE, pick, merE, wipeE, Nat.reduceAdd, Nat.reduceSub, Nat.reduceLeDiff, Nat.reduceLT, reduceCtorEq, if_true, if_false, eq_self, forall_const, Bool.false_and, frzT, String.reduceEq]
      refine ⟨mulCi (by omega) (by omega) (by omega) (by omega), ⟨js, rfl⟩, _, _, Int.emod_nonneg _ (by decide), Int.lt_of_lt_of_le (Int.emod_lt_of_pos _ (by decide)) (by decide), rfl, rfl⟩
  · rintro ρ ⟨-, m, e2, h1, h2, h3, rfl⟩
    simp (config := {maxSteps := 1000000}) only [hc, h3, lc__law_dealt_2, Fj.wp0, Fj.wp1, Fj.wp2, Fj.wp3, Fj.wp4, Fj.wp5, Fj.wp6, Fj.wp7, Fj.wp8, Fj.wp9, Fj.wp10, Fj.wp11, Fj.wp12, Fj.wp13, Fj.wp14, Fj.wp15, Fj.wp16, Fj.wp17, Fj.wp18, Fj.wp19, Fj.wp20, Fj.wp21, Fj.wpz, Fj.wq0, Fj.wq1, Fj.wq2, Fj.tyN, Int.reduceEq, Int.reduceLT, Int.reduceLE, Int.reduceAdd, Int.reduceSub, Int.reduceMul, Int.reduceNeg, Int.reducePow, Int.reduceToNat, Int.reduceMod, Int.reduceDiv, Int.reduceNe, Nat.reduceEqDiff, Nat.reduceMul, borOk, dkAll, dkKept, nlD, nlAll, id, frz, freeE, outsE, pick, merE, wipeE, Nat.reduceAdd, Nat.reduceSub, Nat.reduceLeDiff, Nat.reduceLT, reduceCtorEq, if_true, if_false, eq_self, forall_const, Bool.false_and, frzT, String.reduceEq]
    refine w_lcL (fun ds acc ρ => (∃ js : List Int, ds = js.map .int) ∧ (∃ ks : List Int, acc = ks.map .int) ∧ acc.length + ds.length ≤ 63 ∧ ρ = [.scr ns, .val (.int m), .no]) ?_ ?_ _ _ _ ⟨⟨ns, rfl⟩, ⟨[], rfl⟩, by simpa using hn, rfl⟩
    · rintro d ds acc ρ ⟨⟨js, e⟩, ⟨ks, rfl⟩, h4, rfl⟩
      cases js with
      | nil => cases e
      | cons j js =>
        cases e
        have h5 : ks.length + (js.length + 1) ≤ 63 := by simpa using h4
        simp (config := {maxSteps := 1000000}) only [Fj.wp0, Fj.wp1, Fj.wp2, Fj.wp3, Fj.wp4, Fj.wp5, Fj.wp6, Fj.wp7, Fj.wp8, Fj.wp9, Fj.wp10, Fj.wp11, Fj.wp12, Fj.wp13, Fj.wp14, Fj.wp15, Fj.wp16, Fj.wp17, Fj.wp18, Fj.wp19, Fj.wp20, Fj.wp21, Fj.wpz, Fj.wq0, Fj.wq1, Fj.wq2, Fj.tyN, Int.reduceEq, Int.reduceLT, Int.reduceLE, Int.reduceAdd, Int.reduceSub, Int.reduceMul, Int.reduceNeg, Int.reducePow, Int.reduceToNat, Int.reduceMod, Int.reduceDiv, Int.reduceNe, Nat.reduceEqDiff, Nat.reduceMul, borOk, dkAll, dkKept, nlD, nlAll, id, frz, freeE, outsE, pick, merE, wipeE, Nat.reduceAdd, Nat.reduceSub, Nat.reduceLeDiff, Nat.reduceLT, reduceCtorEq, if_true, if_false, eq_self, forall_const, Bool.false_and, frzT, String.reduceEq]
        exact ⟨by rw [List.length_map]; omega, ⟨js, rfl⟩, ⟨ks ++ [j], by simp⟩, by simp; omega⟩
    · rintro acc ρ ⟨-, ⟨ks, rfl⟩, h4, rfl⟩
      have h5 : ks.length ≤ 63 := by simpa using h4
      simp (config := {maxSteps := 1000000}) only [← List.map_reverse, Fj.wp0, Fj.wp1, Fj.wp2, Fj.wp3, Fj.wp4, Fj.wp5, Fj.wp6, Fj.wp7, Fj.wp8, Fj.wp9, Fj.wp10, Fj.wp11, Fj.wp12, Fj.wp13, Fj.wp14, Fj.wp15, Fj.wp16, Fj.wp17, Fj.wp18, Fj.wp19, Fj.wp20, Fj.wp21, Fj.wpz, Fj.wq0, Fj.wq1, Fj.wq2, Fj.tyN, Int.reduceEq, Int.reduceLT, Int.reduceLE, Int.reduceAdd, Int.reduceSub, Int.reduceMul, Int.reduceNeg, Int.reducePow, Int.reduceToNat, Int.reduceMod, Int.reduceDiv, Int.reduceNe, Nat.reduceEqDiff, Nat.reduceMul, borOk, dkAll, dkKept, nlD, nlAll, id, frz, freeE, outsE, pick, merE, wipeE, Nat.reduceAdd, Nat.reduceSub, Nat.reduceLeDiff, Nat.reduceLT, reduceCtorEq, if_true, if_false, eq_self, forall_const, Bool.false_and, frzT, String.reduceEq]
      exact ⟨_, _, _, rfl, h1, by omega, by decide, by decide, by rw [List.length_reverse]; exact h5⟩
end L_k16

set_option maxRecDepth 100000
set_option maxHeartbeats 0
set_option linter.all false
set_option linter.unusedSimpArgs false
namespace L_k16
open PySem PySem.Spec PyProof.Rows L2 Fj
/-! words -/
theorem g_lenS {z : Str} {S : Ent → Prop} : W1 (gLen [.str z]) S = (z.length ≤ 100000 ∧ S (.val (.int z.length))) := by
  unfold gLen
  exact W1_if
theorem g_ixS {z : Str} {i : Int} {Q : PyData → Prop} : W1 (gIx (.str z) (.int i)) Q = (z.length ≤ 100000 ∧ W1 (L2.atI z.cps.toList i) fun k => Q (.str ⟨#[k]⟩)) := by
  unfold gIx
  by_cases h : z.length ≤ 100000
  · simp only [h, if_true, true_and]
    cases L2.atI z.cps.toList i <;> rfl
  · simp only [h, if_false, false_and]
    rfl
theorem dk_mono {n n' : Nat} {l : List Int} {m t : Int} (h : DkOk n l m t) (hn : n ≤ n') : DkOk n' l m t := by
  obtain ⟨h1, h2, h3, h4, h5⟩ := h
  exact ⟨h1, h2, h3, by omega, h5⟩
/-- a function that draws at most c times -/
def Dk (c : Nat) (f : MF) (args : List Ent) (R : Ent → Prop) : Prop := ∀ (n : Nat) (l : List Int) (m t : Int), DkOk n l m t → n + c ≤ 2 ^ 62 → W (f (.own false (.deck 1 l m t) :: args)) fun e outs => R e ∧ ∃ l' m' t' o, outs = .own false (.deck 1 l' m' t') :: o ∧ DkOk (n + c) l' m' t'
def okW (x : Str) : Prop := 1 ≤ x.length ∧ x.length ≤ 10 ∧ ∀ k ∈ x.cps.toList, 97 ≤ k ∧ k ≤ 122
instance (x : Str) : Decidable (okW x) := by unfold okW; infer_instance
theorem okW.strOk {x : Str} (h : okW x) : PyData.strOk x = true := by
  unfold PyData.strOk
  rw [← Array.all_toList, List.all_eq_true]
  intro k hk
  have := h.2.2 k hk
  exact decide_eq_true (by omega)
theorem letter {k : Nat} (h : 97 ≤ k ∧ k ≤ 122) : k ∈ ("abcdefghijklmnopqrstuvwxyz" : Str).cps.toList := by
  have : ∀ j : Fin 26, (97 + j.1) ∈ ("abcdefghijklmnopqrstuvwxyz" : Str).cps.toList := by decide +kernel
  have q := this ⟨k - 97, by omega⟩
  rwa [show 97 + (k - 97) = k by omega] at q
theorem of_letter {k : Nat} (h : k ∈ ("abcdefghijklmnopqrstuvwxyz" : Str).cps.toList) : 97 ≤ k ∧ k ≤ 122 := by
  have : ∀ k ∈ ("abcdefghijklmnopqrstuvwxyz" : Str).cps.toList, 97 ≤ k ∧ k ≤ 122 := by decide +kernel
  exact this k h
theorem p_name {x : Str} (h : okW x) : mf_is_name [.val (.str x)] = some (.val (.bool true), [.no]) := by
  refine W_eq ?_
  have h1 : (1 : Int) ≤ (x.length : Int) := by have := h.1; omega
  have h2 : (x.length : Int) ≤ 10 := by have := h.2.1; omega
  have h3 : x.length ≤ 100000 := by have := h.2.1; omega
  simp (config := {maxSteps := 1000000}) only [mf_is_name, mb_is_name, g_lenS, h1, h2, h3, lc_is_name_1, Fj.wp0, Fj.wp1, Fj.wp2, Fj.wp3, Fj.wp4, Fj.wp5, Fj.wp6, Fj.wp7, Fj.wp8, Fj.wp9, Fj.wp10, Fj.wp11, Fj.wp12, Fj.wp13, Fj.wp14, Fj.wp15, Fj.wp16, Fj.wp17, Fj.wp18, Fj.wp19, Fj.wp20, Fj.wp21, Fj.wpz, Fj.wq0, Fj.wq1, Fj.wq2, Fj.tyN, Int.reduceEq, Int.reduceLT, Int.reduceLE, Int.reduceAdd, Int.reduceSub, Int.reduceMul, Int.reduceNeg, Int.reducePow, Int.reduceToNat, Int.reduceMod, Int.reduceDiv, Int.reduceNe, Nat.reduceEqDiff, Nat.reduceMul, borOk, dkAll, dkKept, nlD, nlAll, id, frz, freeE, outsE, pick, merE, wipeE, Nat.reduceAdd, Nat.reduceSub, Nat.reduceLeDiff, Nat.reduceLT, reduceCtorEq, if_true, if_false, eq_self, forall_const, Bool.false_and, frzT, String.reduceEq]
  refine w_lcMapD (fun _ => .bool true) (fun d hd => ?_) ?_ ?_
  · obtain ⟨k, hk, rfl⟩ := List.mem_map.mp hd
    have hl := letter (h.2.2 k hk)
    simp (config := {maxSteps := 1000000}) only [hl, Fj.wp0, Fj.wp1, Fj.wp2, Fj.wp3, Fj.wp4, Fj.wp5, Fj.wp6, Fj.wp7, Fj.wp8, Fj.wp9, Fj.wp10, Fj.wp11, Fj.wp12, Fj.wp13, Fj.wp14, Fj.wp15, Fj.wp16, Fj.wp17, Fj.wp18, Fj.wp19, Fj.wp20, Fj.wp21, Fj.wpz, Fj.wq0, Fj.wq1, Fj.wq2, Fj.tyN, Int.reduceEq, Int.reduceLT, Int.reduceLE, Int.reduceAdd, Int.reduceSub, Int.reduceMul, Int.reduceNeg, Int.reducePow, Int.reduceToNat, Int.reduceMod, Int.reduceDiv, Int.reduceNe, Nat.reduceEqDiff, Nat.reduceMul, borOk, dkAll, dkKept, nlD, nlAll, id, frz, freeE, outsE, pick, merE, wipeE, Nat.reduceAdd, Nat.reduceSub, Nat.reduceLeDiff, Nat.reduceLT, reduceCtorEq, if_true, if_false, eq_self, forall_const, Bool.false_and, frzT, String.reduceEq]
  · show (x.cps.toList.map _).length ≤ _
    rw [List.length_map]
    exact h3
  · simp (config := {maxSteps := 1000000}) only [g_boolsF, Fj.wp0, Fj.wp1, Fj.wp2, Fj.wp3, Fj.wp4, Fj.wp5, Fj.wp6, Fj.wp7, Fj.wp8, Fj.wp9, Fj.wp10, Fj.wp11, Fj.wp12, Fj.wp13, Fj.wp14, Fj.wp15, Fj.wp16, Fj.wp17, Fj.wp18, Fj.wp19, Fj.wp20, Fj.wp21, Fj.wpz, Fj.wq0, Fj.wq1, Fj.wq2, Fj.tyN, Int.reduceEq, Int.reduceLT, Int.reduceLE, Int.reduceAdd, Int.reduceSub, Int.reduceMul, Int.reduceNeg, Int.reducePow, Int.reduceToNat, Int.reduceMod, Int.reduceDiv, Int.reduceNe, Nat.reduceEqDiff, Nat.reduceMul, borOk, dkAll, dkKept, nlD, nlAll, id, frz, freeE, outsE, pick, merE, wipeE, Nat.reduceAdd, Nat.reduceSub, Nat.reduceLeDiff, Nat.reduceLT, reduceCtorEq, if_true, if_false, eq_self, forall_const, Bool.false_and, frzT, String.reduceEq]
    have : ((signsD x).map fun _ => true).all id = true := by
      rw [List.all_map]
      exact List.all_eq_true.mpr fun _ _ => rfl
    simp (config := {maxSteps := 1000000}) only [this, Fj.wp0, Fj.wp1, Fj.wp2, Fj.wp3, Fj.wp4, Fj.wp5, Fj.wp6, Fj.wp7, Fj.wp8, Fj.wp9, Fj.wp10, Fj.wp11, Fj.wp12, Fj.wp13, Fj.wp14, Fj.wp15, Fj.wp16, Fj.wp17, Fj.wp18, Fj.wp19, Fj.wp20, Fj.wp21, Fj.wpz, Fj.wq0, Fj.wq1, Fj.wq2, Fj.tyN, Int.reduceEq, Int.reduceLT, Int.reduceLE, Int.reduceAdd, Int.reduceSub, Int.reduceMul, Int.reduceNeg, Int.reducePow, Int.reduceToNat, Int.reduceMod, Int.reduceDiv, Int.reduceNe, Nat.reduceEqDiff, Nat.reduceMul, borOk, dkAll, dkKept, nlD, nlAll, id, frz, freeE, outsE, pick, merE, wipeE, Nat.reduceAdd, Nat.reduceSub, Nat.reduceLeDiff, Nat.reduceLT, reduceCtorEq, if_true, if_false, eq_self, forall_const, Bool.false_and, frzT, String.reduceEq]
def okQ (p : Str × Str) : Prop := okW p.1 ∧ okW p.2
theorem okQ.okP {p : Str × Str} (h : okQ p) : okP p := ⟨h.1.strOk, h.2.strOk⟩
theorem p_pair {p : Str × Str} (h : okQ p) : mf_is_pair_of_words [.val (kvD p)] = some (.val (.bool true), [.no]) := by
  refine W_eq ?_
  simp (config := {maxSteps := 1000000}) only [mf_is_pair_of_words, mb_is_pair_of_words, p_name h.1, p_name h.2, Fj.wp0, Fj.wp1, Fj.wp2, Fj.wp3, Fj.wp4, Fj.wp5, Fj.wp6, Fj.wp7, Fj.wp8, Fj.wp9, Fj.wp10, Fj.wp11, Fj.wp12, Fj.wp13, Fj.wp14, Fj.wp15, Fj.wp16, Fj.wp17, Fj.wp18, Fj.wp19, Fj.wp20, Fj.wp21, Fj.wpz, Fj.wq0, Fj.wq1, Fj.wq2, Fj.tyN, Int.reduceEq, Int.reduceLT, Int.reduceLE, Int.reduceAdd, Int.reduceSub, Int.reduceMul, Int.reduceNeg, Int.reducePow, Int.reduceToNat, Int.reduceMod, Int.reduceDiv, Int.reduceNe, Nat.reduceEqDiff, Nat.reduceMul, borOk, dkAll, dkKept, nlD, nlAll, id, frz, freeE, outsE, pick, merE, wipeE, Nat.reduceAdd, Nat.reduceSub, Nat.reduceLeDiff, Nat.reduceLT, reduceCtorEq, if_true, if_false, eq_self, forall_const, Bool.false_and, frzT, String.reduceEq]
/-- keys in order, each once -/
def upP (ps : List (Str × Str)) : Prop := ps.Pairwise fun p q => ltT p.1 q.1 = true
abbrev tgD (ps : List (Str × Str)) : PyData := .tuple (ps.map kvD)
structure Tg (ps : List (Str × Str)) : Prop where
  ok : ∀ p ∈ ps, okQ p
  up : upP ps
  len : ps.length ≤ 1000
theorem zip_nextP (ps : List (Str × Str)) : zipD (ps.map kvD) (cutD (ps.map kvD) (some 1) none) = (ps.zip (ps.drop 1)).map fun p => .tuple [kvD p.1, kvD p.2] := by
  have e : cutD (ps.map kvD) (some 1) none = (ps.drop 1).map kvD := by
    unfold Fj.cutD
    rw [List.map_drop]
    have h1 : HT.sIx (ps.map kvD).length 0 (some 1) = min 1 ps.length := by
      rw [show (some (1 : Int)) = some ((1 : Nat) : Int) by rfl, HT.sIx_nat, List.length_map]
    rw [h1, HT.sIx_none]
    rcases ps with _ | ⟨p, ps⟩
    · rfl
    · rw [show min 1 (p :: ps).length = 1 by simp [List.length_cons]]
      exact List.take_of_length_le (by rw [List.length_drop]; omega)
  rw [e]
  unfold Fj.zipD
  rw [List.zip_map, List.map_map]
  rfl
theorem all_next {α : Type} {r : α → α → Bool} : ∀ {xs : List α}, xs.Pairwise (fun a b => r a b = true) → ∀ p ∈ xs.zip (xs.drop 1), r p.1 p.2 = true
  | [], _, p, h => (List.not_mem_nil h).elim
  | [x], _, p, h => (List.not_mem_nil h).elim
  | x :: y :: xs, h, p, hp => by
    have hp : p ∈ (x, y) :: (y :: xs).zip ((y :: xs).drop 1) := hp
    rcases List.mem_cons.mp hp with e | e
    · rw [e]
      exact (List.pairwise_cons.mp h).1 y (List.mem_cons_self ..)
    · exact all_next (List.pairwise_cons.mp h).2 p e
theorem p_target {ps : List (Str × Str)} (h : Tg ps) : mf_is_target_value [.val (tgD ps)] = some (.val (.bool true), [.no]) := by
  refine W_eq ?_
  have hl := h.len
  simp (config := {maxSteps := 1000000}) only [mf_is_target_value, mb_is_target_value, mb_is_target_value_2, lc_is_target_value_1, Fj.wp0, Fj.wp1, Fj.wp2, Fj.wp3, Fj.wp4, Fj.wp5, Fj.wp6, Fj.wp7, Fj.wp8, Fj.wp9, Fj.wp10, Fj.wp11, Fj.wp12, Fj.wp13, Fj.wp14, Fj.wp15, Fj.wp16, Fj.wp17, Fj.wp18, Fj.wp19, Fj.wp20, Fj.wp21, Fj.wpz, Fj.wq0, Fj.wq1, Fj.wq2, Fj.tyN, Int.reduceEq, Int.reduceLT, Int.reduceLE, Int.reduceAdd, Int.reduceSub, Int.reduceMul, Int.reduceNeg, Int.reducePow, Int.reduceToNat, Int.reduceMod, Int.reduceDiv, Int.reduceNe, Nat.reduceEqDiff, Nat.reduceMul, borOk, dkAll, dkKept, nlD, nlAll, id, frz, freeE, outsE, pick, merE, wipeE, Nat.reduceAdd, Nat.reduceSub, Nat.reduceLeDiff, Nat.reduceLT, reduceCtorEq, if_true, if_false, eq_self, forall_const, Bool.false_and, frzT, String.reduceEq]
  refine w_lcMap kvD (fun _ => .bool true) (fun p hp => ?_) (by omega) ?_
  · simp (config := {maxSteps := 1000000}) only [p_pair (h.ok p hp), Fj.wp0, Fj.wp1, Fj.wp2, Fj.wp3, Fj.wp4, Fj.wp5, Fj.wp6, Fj.wp7, Fj.wp8, Fj.wp9, Fj.wp10, Fj.wp11, Fj.wp12, Fj.wp13, Fj.wp14, Fj.wp15, Fj.wp16, Fj.wp17, Fj.wp18, Fj.wp19, Fj.wp20, Fj.wp21, Fj.wpz, Fj.wq0, Fj.wq1, Fj.wq2, Fj.tyN, Int.reduceEq, Int.reduceLT, Int.reduceLE, Int.reduceAdd, Int.reduceSub, Int.reduceMul, Int.reduceNeg, Int.reducePow, Int.reduceToNat, Int.reduceMod, Int.reduceDiv, Int.reduceNe, Nat.reduceEqDiff, Nat.reduceMul, borOk, dkAll, dkKept, nlD, nlAll, id, frz, freeE, outsE, pick, merE, wipeE, Nat.reduceAdd, Nat.reduceSub, Nat.reduceLeDiff, Nat.reduceLT, reduceCtorEq, if_true, if_false, eq_self, forall_const, Bool.false_and, frzT, String.reduceEq]
  have e1 : (ps.map fun _ => true).all id = true := by
    rw [List.all_map]
    exact List.all_eq_true.mpr fun _ _ => rfl
  simp (config := {maxSteps := 1000000}) only [g_boolsF, e1, lc_is_target_value_3, zip_nextP, Fj.wp0, Fj.wp1, Fj.wp2, Fj.wp3, Fj.wp4, Fj.wp5, Fj.wp6, Fj.wp7, Fj.wp8, Fj.wp9, Fj.wp10, Fj.wp11, Fj.wp12, Fj.wp13, Fj.wp14, Fj.wp15, Fj.wp16, Fj.wp17, Fj.wp18, Fj.wp19, Fj.wp20, Fj.wp21, Fj.wpz, Fj.wq0, Fj.wq1, Fj.wq2, Fj.tyN, Int.reduceEq, Int.reduceLT, Int.reduceLE, Int.reduceAdd, Int.reduceSub, Int.reduceMul, Int.reduceNeg, Int.reducePow, Int.reduceToNat, Int.reduceMod, Int.reduceDiv, Int.reduceNe, Nat.reduceEqDiff, Nat.reduceMul, borOk, dkAll, dkKept, nlD, nlAll, id, frz, freeE, outsE, pick, merE, wipeE, Nat.reduceAdd, Nat.reduceSub, Nat.reduceLeDiff, Nat.reduceLT, reduceCtorEq, if_true, if_false, eq_self, forall_const, Bool.false_and, frzT, String.reduceEq]
  refine w_lcMap _ (fun _ => .bool true) (fun p hp => ?_) (by rw [List.length_zip]; omega) ?_
  · have := all_next (r := fun p q : Str × Str => ltT p.1 q.1) h.up p hp
    simp (config := {maxSteps := 1000000}) only [this, Fj.wp0, Fj.wp1, Fj.wp2, Fj.wp3, Fj.wp4, Fj.wp5, Fj.wp6, Fj.wp7, Fj.wp8, Fj.wp9, Fj.wp10, Fj.wp11, Fj.wp12, Fj.wp13, Fj.wp14, Fj.wp15, Fj.wp16, Fj.wp17, Fj.wp18, Fj.wp19, Fj.wp20, Fj.wp21, Fj.wpz, Fj.wq0, Fj.wq1, Fj.wq2, Fj.tyN, Int.reduceEq, Int.reduceLT, Int.reduceLE, Int.reduceAdd, Int.reduceSub, Int.reduceMul, Int.reduceNeg, Int.reducePow, Int.reduceToNat, Int.reduceMod, Int.reduceDiv, Int.reduceNe, Nat.reduceEqDiff, Nat.reduceMul, borOk, dkAll, dkKept, nlD, nlAll, id, frz, freeE, outsE, pick, merE, wipeE, Nat.reduceAdd, Nat.reduceSub, Nat.reduceLeDiff, Nat.reduceLT, reduceCtorEq, if_true, if_false, eq_self, forall_const, Bool.false_and, frzT, String.reduceEq]
  have e2 : ((ps.zip (ps.drop 1)).map fun _ => true).all id = true := by
    rw [List.all_map]
    exact List.all_eq_true.mpr fun _ _ => rfl
  simp (config := {maxSteps := 1000000}) only [g_boolsF, e2, Fj.wp0, Fj.wp1, Fj.wp2, Fj.wp3, Fj.wp4, Fj.wp5, Fj.wp6, Fj.wp7, Fj.wp8, Fj.wp9, Fj.wp10, Fj.wp11, Fj.wp12, Fj.wp13, Fj.wp14, Fj.wp15, Fj.wp16, Fj.wp17, Fj.wp18, Fj.wp19, Fj.wp20, Fj.wp21, Fj.wpz, Fj.wq0, Fj.wq1, Fj.wq2, Fj.tyN, Int.reduceEq, Int.reduceLT, Int.reduceLE, Int.reduceAdd, Int.reduceSub, Int.reduceMul, Int.reduceNeg, Int.reducePow, Int.reduceToNat, Int.reduceMod, Int.reduceDiv, Int.reduceNe, Nat.reduceEqDiff, Nat.reduceMul, borOk, dkAll, dkKept, nlD, nlAll, id, frz, freeE, outsE, pick, merE, wipeE, Nat.reduceAdd, Nat.reduceSub, Nat.reduceLeDiff, Nat.reduceLT, reduceCtorEq, if_true, if_false, eq_self, forall_const, Bool.false_and, frzT, String.reduceEq]
theorem need_target_eq {ps : List (Str × Str)} (h : Tg ps) : mf_need_target [.val (tgD ps)] = some (.val .none, [.no]) := by
  refine W_eq ?_
  simp (config := {maxSteps := 1000000}) only [mf_need_target, mb_need_target, mb_need_target_1, p_target h, Fj.wp0, Fj.wp1, Fj.wp2, Fj.wp3, Fj.wp4, Fj.wp5, Fj.wp6, Fj.wp7, Fj.wp8, Fj.wp9, Fj.wp10, Fj.wp11, Fj.wp12, Fj.wp13, Fj.wp14, Fj.wp15, Fj.wp16, Fj.wp17, Fj.wp18, Fj.wp19, Fj.wp20, Fj.wp21, Fj.wpz, Fj.wq0, Fj.wq1, Fj.wq2, Fj.tyN, Int.reduceEq, Int.reduceLT, Int.reduceLE, Int.reduceAdd, Int.reduceSub, Int.reduceMul, Int.reduceNeg, Int.reducePow, Int.reduceToNat, Int.reduceMod, Int.reduceDiv, Int.reduceNe, Nat.reduceEqDiff, Nat.reduceMul, borOk, dkAll, dkKept, nlD, nlAll, id, frz, freeE, outsE, pick, merE, wipeE, Nat.reduceAdd, Nat.reduceSub, Nat.reduceLeDiff, Nat.reduceLT, reduceCtorEq, if_true, if_false, eq_self, forall_const, Bool.false_and, frzT, String.reduceEq]
end L_k16

set_option maxRecDepth 100000
set_option maxHeartbeats 0
set_option linter.all false
set_option linter.unusedSimpArgs false
namespace L_k16
open PySem PySem.Spec PyProof.Rows L2 Fj
/-! conditions -/
inductive Co where
  | al
  | is (k v : Str)
  | no (c : Co)
  | bo (c d : Co)
  | ei (c d : Co)
def Co.D : Co → PyData
  | .al => .tuple [.str "always"]
  | .is k v => .tuple [.str "is", .str k, .str v]
  | .no c => .tuple [.str "not", c.D]
  | .bo c d => .tuple [.str "both", c.D, d.D]
  | .ei c d => .tuple [.str "either", c.D, d.D]
def Co.hold (t : List (Str × Str)) : Co → Bool
  | .al => true
  | .is k v => decide ((k, v) ∈ t)
  | .no c => !c.hold t
  | .bo c d => c.hold t && d.hold t
  | .ei c d => c.hold t || d.hold t
def Co.prs : Co → List (Str × Str)
  | .al => []
  | .is k v => [(k, v)]
  | .no c => c.prs
  | .bo c d => c.prs ++ d.prs
  | .ei c d => c.prs ++ d.prs
def Co.dep : Co → Nat
  | .al => 1
  | .is _ _ => 1
  | .no c => c.dep + 1
  | .bo c d => max c.dep d.dep + 1
  | .ei c d => max c.dep d.dep + 1
def Co.siz : Co → Nat
  | .al => 1
  | .is _ _ => 1
  | .no c => c.siz + 1
  | .bo c d => c.siz + d.siz + 1
  | .ei c d => c.siz + d.siz + 1
def Co.ok (c : Co) : Prop := ∀ p ∈ c.prs, okQ p
theorem Co.ok2 {c d : Co} (h : ∀ p ∈ c.prs ++ d.prs, okQ p) : c.ok ∧ d.ok := ⟨fun p hp => h p (List.mem_append_left _ hp), fun p hp => h p (List.mem_append_right _ hp)⟩
theorem okW_is : PyData.strOk "is" = true ∧ PyData.strOk "always" = true ∧ PyData.strOk "not" = true ∧ PyData.strOk "both" = true ∧ PyData.strOk "either" = true := by decide +kernel
theorem Co.lay : ∀ {c : Co}, c.ok → PyData.canLay0 c.D = true ∧ PyData.depth c.D ≤ c.dep ∧ sim c.D = true
  | .al, h => by
    refine ⟨by simp [Co.D, PyData.canLay0, PyData.canLayAll0, okW_is], by simp [Co.D, Co.dep, PyData.depth, PyData.depthAll], by simp [Co.D, sim, simAll]⟩
  | .is k v, h => by
    have := h (k, v) (List.mem_singleton.mpr rfl)
    refine ⟨by simp [Co.D, PyData.canLay0, PyData.canLayAll0, okW_is, this.1.strOk, this.2.strOk], by simp [Co.D, Co.dep, PyData.depth, PyData.depthAll], by simp [Co.D, sim, simAll]⟩
  | .no c, h => by
    obtain ⟨h1, h2, h3⟩ := Co.lay (c := c) h
    refine ⟨by simp [Co.D, PyData.canLay0, PyData.canLayAll0, okW_is, h1], ?_, by simp [Co.D, sim, simAll, h3]⟩
    simp [Co.D, Co.dep, PyData.depth, PyData.depthAll]
    omega
  | .bo c d, h => by
    obtain ⟨h1, h2, h3⟩ := Co.lay (Co.ok2 h).1
    obtain ⟨g1, g2, g3⟩ := Co.lay (Co.ok2 h).2
    refine ⟨by simp [Co.D, PyData.canLay0, PyData.canLayAll0, okW_is, h1, g1], ?_, by simp [Co.D, sim, simAll, h3, g3]⟩
    simp [Co.D, Co.dep, PyData.depth, PyData.depthAll]
    omega
  | .ei c d, h => by
    obtain ⟨h1, h2, h3⟩ := Co.lay (Co.ok2 h).1
    obtain ⟨g1, g2, g3⟩ := Co.lay (Co.ok2 h).2
    refine ⟨by simp [Co.D, PyData.canLay0, PyData.canLayAll0, okW_is, h1, g1], ?_, by simp [Co.D, sim, simAll, h3, g3]⟩
    simp [Co.D, Co.dep, PyData.depth, PyData.depthAll]
    omega
theorem Co.shaped {c : Co} (h : c.ok) (hd : c.dep ≤ 60) : SeqAt.shaped c.D = true := by
  obtain ⟨h1, h2, _⟩ := Co.lay h
  unfold SeqAt.shaped
  rw [h1]
  exact decide_eq_true (by omega)
theorem shaped_al : SeqAt.shaped (.tuple [.str "always"]) = true := by decide +kernel
def Co.isAl : Co → Bool
  | .al => true
  | _ => false
theorem eq_al {c : Co} (h : c.ok) (hd : c.dep ≤ 60) {Q : PyData → Prop} : W1 (gEq c.D (.tuple [.str "always"])) Q = Q (.bool c.isAl) := by
  have hs := Co.shaped h hd
  have hm := (Co.lay h).2.2
  cases c <;> exact g_eqD hs shaped_al hm (by simp [simAll, sim]) (by simp [Co.isAl])
theorem cut_1b (a b : PyData) : cutD [a, b] (some 1) none = [b] := rfl
theorem cut_1c (a b c : PyData) : cutD [a, b, c] (some 1) none = [b, c] := rfl
theorem pr_in {p : Str × Str} {ps : List (Str × Str)} (hp : okQ p) (h : ∀ q ∈ ps, okQ q) {Q : PyData → Prop} : W1 (gIn (.tuple [.str p.1, .str p.2]) (tgD ps)) Q = Q (.bool (decide (p ∈ ps))) := by
  refine g_inT (shaped_pr hp.okP) (shaped_rowT (pr_rows fun q hq => (h q hq).okP)) (by simp [sim, simAll]) (fun x hx => ?_) ?_
  · obtain ⟨q, _, rfl⟩ := List.mem_map.mp hx
    simp [sim, simAll]
  · rw [decide_eq_true_iff, List.mem_map]
    refine ⟨fun h => ⟨p, h, rfl⟩, fun ⟨q, hq, e⟩ => ?_⟩
    simp only [PyData.tuple.injEq, List.cons.injEq, PyData.str.injEq, and_true] at e
    have : q = p := Prod.ext e.1 e.2
    rw [← this]
    exact hq
theorem tab_s {k : Str} (h : k = "both" ∨ k = "either") : decide (k ∈ (["both", "either"] : List Str)) = true := by
  rcases h with rfl | rfl <;> decide
theorem p_cond : ∀ (n : Nat) (c : Co), c.dep ≤ n → n ≤ 60 → c.ok → mf_is_condition_value n [.val c.D] = some (.val (.bool true), [.no])
  | 0, c, h, _, _ => by cases c <;> simp [Co.dep] at h
  | n + 1, c, h, hn, ok => by
    refine W_eq ?_
    have e1 := fun (Q : PyData → Prop) => eq_al ok (by omega) (Q := Q)
    cases c with
    | al =>
      have e1 : ∀ Q, W1 (gEq (.tuple [.str "always"]) (.tuple [.str "always"])) Q = Q (.bool true) := fun Q => e1 Q
      simp (config := {maxSteps := 1000000}) only [mf_is_condition_value, mb_is_condition_value, mb_is_condition_value_1, mb_is_condition_value_2, Co.D, e1, Fj.wp0, Fj.wp1, Fj.wp2, Fj.wp3, Fj.wp4, Fj.wp5, Fj.wp6, Fj.wp7, Fj.wp8, Fj.wp9, Fj.wp10, Fj.wp11, Fj.wp12, Fj.wp13, Fj.wp14, Fj.wp15, Fj.wp16, Fj.wp17, Fj.wp18, Fj.wp19, Fj.wp20, Fj.wp21, Fj.wpz, Fj.wq0, Fj.wq1, Fj.wq2, Fj.tyN, Int.reduceEq, Int.reduceLT, Int.reduceLE, Int.reduceAdd, Int.reduceSub, Int.reduceMul, Int.reduceNeg, Int.reducePow, Int.reduceToNat, Int.reduceMod, Int.reduceDiv, Int.reduceNe, Nat.reduceEqDiff, Nat.reduceMul, borOk, dkAll, dkKept, nlD, nlAll, id, frz, freeE, outsE, pick, merE, wipeE, Nat.reduceAdd, Nat.reduceSub, Nat.reduceLeDiff, Nat.reduceLT, reduceCtorEq, if_true, if_false, eq_self, forall_const, Bool.false_and, frzT, String.reduceEq]
    | is k v =>
      have hp := ok (k, v) (List.mem_singleton.mpr rfl)
      have e2 := p_pair hp
      have e1 : ∀ Q, W1 (gEq (.tuple [.str "is", .str k, .str v]) (.tuple [.str "always"])) Q = Q (.bool false) := fun Q => e1 Q
      simp (config := {maxSteps := 1000000}) only [mf_is_condition_value, mb_is_condition_value, mb_is_condition_value_1, mb_is_condition_value_2, mb_is_condition_value_3, Co.D, e1, cut_1c, e2, Fj.wp0, Fj.wp1, Fj.wp2, Fj.wp3, Fj.wp4, Fj.wp5, Fj.wp6, Fj.wp7, Fj.wp8, Fj.wp9, Fj.wp10, Fj.wp11, Fj.wp12, Fj.wp13, Fj.wp14, Fj.wp15, Fj.wp16, Fj.wp17, Fj.wp18, Fj.wp19, Fj.wp20, Fj.wp21, Fj.wpz, Fj.wq0, Fj.wq1, Fj.wq2, Fj.tyN, Int.reduceEq, Int.reduceLT, Int.reduceLE, Int.reduceAdd, Int.reduceSub, Int.reduceMul, Int.reduceNeg, Int.reducePow, Int.reduceToNat, Int.reduceMod, Int.reduceDiv, Int.reduceNe, Nat.reduceEqDiff, Nat.reduceMul, borOk, dkAll, dkKept, nlD, nlAll, id, frz, freeE, outsE, pick, merE, wipeE, Nat.reduceAdd, Nat.reduceSub, Nat.reduceLeDiff, Nat.reduceLT, reduceCtorEq, if_true, if_false, eq_self, forall_const, Bool.false_and, frzT, String.reduceEq]
    | no c =>
      have ih := p_cond n c (by simp [Co.dep] at h; omega) (by omega) ok
      have e1 : ∀ Q, W1 (gEq (.tuple [.str "not", c.D]) (.tuple [.str "always"])) Q = Q (.bool false) := fun Q => e1 Q
      simp (config := {maxSteps := 1000000}) only [mf_is_condition_value, mb_is_condition_value, mb_is_condition_value_1, mb_is_condition_value_2, mb_is_condition_value_3, mb_is_condition_value_4, Co.D, e1, ih, Fj.wp0, Fj.wp1, Fj.wp2, Fj.wp3, Fj.wp4, Fj.wp5, Fj.wp6, Fj.wp7, Fj.wp8, Fj.wp9, Fj.wp10, Fj.wp11, Fj.wp12, Fj.wp13, Fj.wp14, Fj.wp15, Fj.wp16, Fj.wp17, Fj.wp18, Fj.wp19, Fj.wp20, Fj.wp21, Fj.wpz, Fj.wq0, Fj.wq1, Fj.wq2, Fj.tyN, Int.reduceEq, Int.reduceLT, Int.reduceLE, Int.reduceAdd, Int.reduceSub, Int.reduceMul, Int.reduceNeg, Int.reducePow, Int.reduceToNat, Int.reduceMod, Int.reduceDiv, Int.reduceNe, Nat.reduceEqDiff, Nat.reduceMul, borOk, dkAll, dkKept, nlD, nlAll, id, frz, freeE, outsE, pick, merE, wipeE, Nat.reduceAdd, Nat.reduceSub, Nat.reduceLeDiff, Nat.reduceLT, reduceCtorEq, if_true, if_false, eq_self, forall_const, Bool.false_and, frzT, String.reduceEq]
    | bo c d =>
      have ih := p_cond n c (by simp [Co.dep] at h; omega) (by omega) (Co.ok2 ok).1
      have ih2 := p_cond n d (by simp [Co.dep] at h; omega) (by omega) (Co.ok2 ok).2
      have e1 : ∀ Q, W1 (gEq (.tuple [.str "both", c.D, d.D]) (.tuple [.str "always"])) Q = Q (.bool false) := fun Q => e1 Q
      simp (config := {maxSteps := 1000000}) only [mf_is_condition_value, mb_is_condition_value, mb_is_condition_value_1, mb_is_condition_value_2, mb_is_condition_value_3, mb_is_condition_value_4, Co.D, e1, ih, ih2, tab_s (.inl rfl), Fj.wp0, Fj.wp1, Fj.wp2, Fj.wp3, Fj.wp4, Fj.wp5, Fj.wp6, Fj.wp7, Fj.wp8, Fj.wp9, Fj.wp10, Fj.wp11, Fj.wp12, Fj.wp13, Fj.wp14, Fj.wp15, Fj.wp16, Fj.wp17, Fj.wp18, Fj.wp19, Fj.wp20, Fj.wp21, Fj.wpz, Fj.wq0, Fj.wq1, Fj.wq2, Fj.tyN, Int.reduceEq, Int.reduceLT, Int.reduceLE, Int.reduceAdd, Int.reduceSub, Int.reduceMul, Int.reduceNeg, Int.reducePow, Int.reduceToNat, Int.reduceMod, Int.reduceDiv, Int.reduceNe, Nat.reduceEqDiff, Nat.reduceMul, borOk, dkAll, dkKept, nlD, nlAll, id, frz, freeE, outsE, pick, merE, wipeE, Nat.reduceAdd, Nat.reduceSub, Nat.reduceLeDiff, Nat.reduceLT, reduceCtorEq, if_true, if_false, eq_self, forall_const, Bool.false_and, frzT, String.reduceEq]
    | ei c d =>
      have ih := p_cond n c (by simp [Co.dep] at h; omega) (by omega) (Co.ok2 ok).1
      have ih2 := p_cond n d (by simp [Co.dep] at h; omega) (by omega) (Co.ok2 ok).2
      have e1 : ∀ Q, W1 (gEq (.tuple [.str "either", c.D, d.D]) (.tuple [.str "always"])) Q = Q (.bool false) := fun Q => e1 Q
      simp (config := {maxSteps := 1000000}) only [mf_is_condition_value, mb_is_condition_value, mb_is_condition_value_1, mb_is_condition_value_2, mb_is_condition_value_3, mb_is_condition_value_4, Co.D, e1, ih, ih2, tab_s (.inr rfl), Fj.wp0, Fj.wp1, Fj.wp2, Fj.wp3, Fj.wp4, Fj.wp5, Fj.wp6, Fj.wp7, Fj.wp8, Fj.wp9, Fj.wp10, Fj.wp11, Fj.wp12, Fj.wp13, Fj.wp14, Fj.wp15, Fj.wp16, Fj.wp17, Fj.wp18, Fj.wp19, Fj.wp20, Fj.wp21, Fj.wpz, Fj.wq0, Fj.wq1, Fj.wq2, Fj.tyN, Int.reduceEq, Int.reduceLT, Int.reduceLE, Int.reduceAdd, Int.reduceSub, Int.reduceMul, Int.reduceNeg, Int.reducePow, Int.reduceToNat, Int.reduceMod, Int.reduceDiv, Int.reduceNe, Nat.reduceEqDiff, Nat.reduceMul, borOk, dkAll, dkKept, nlD, nlAll, id, frz, freeE, outsE, pick, merE, wipeE, Nat.reduceAdd, Nat.reduceSub, Nat.reduceLeDiff, Nat.reduceLT, reduceCtorEq, if_true, if_false, eq_self, forall_const, Bool.false_and, frzT, String.reduceEq]
theorem need_cond_eq {c : Co} (h : c.dep ≤ 40) (ok : c.ok) : mf_need_condition [.val c.D] = some (.val .none, [.no]) := by
  refine W_eq ?_
  simp (config := {maxSteps := 1000000}) only [mf_need_condition, mb_need_condition, mb_need_condition_1, p_cond 40 c h (by decide) ok, Fj.wp0, Fj.wp1, Fj.wp2, Fj.wp3, Fj.wp4, Fj.wp5, Fj.wp6, Fj.wp7, Fj.wp8, Fj.wp9, Fj.wp10, Fj.wp11, Fj.wp12, Fj.wp13, Fj.wp14, Fj.wp15, Fj.wp16, Fj.wp17, Fj.wp18, Fj.wp19, Fj.wp20, Fj.wp21, Fj.wpz, Fj.wq0, Fj.wq1, Fj.wq2, Fj.tyN, Int.reduceEq, Int.reduceLT, Int.reduceLE, Int.reduceAdd, Int.reduceSub, Int.reduceMul, Int.reduceNeg, Int.reducePow, Int.reduceToNat, Int.reduceMod, Int.reduceDiv, Int.reduceNe, Nat.reduceEqDiff, Nat.reduceMul, borOk, dkAll, dkKept, nlD, nlAll, id, frz, freeE, outsE, pick, merE, wipeE, Nat.reduceAdd, Nat.reduceSub, Nat.reduceLeDiff, Nat.reduceLT, reduceCtorEq, if_true, if_false, eq_self, forall_const, Bool.false_and, frzT, String.reduceEq]
theorem p_met : ∀ (n : Nat) (c : Co) (t : List (Str × Str)), c.dep ≤ n → n ≤ 60 → c.ok → (∀ q ∈ t, okQ q) → mf_is_met n [.val c.D, .val (tgD t)] = some (.val (.bool (c.hold t)), [.no, .no])
  | 0, c, t, h, _, _, _ => by cases c <;> simp [Co.dep] at h
  | n + 1, c, t, h, hn, ok, ht => by
    refine W_eq ?_
    have e1 := fun (Q : PyData → Prop) => eq_al ok (by omega) (Q := Q)
    cases c with
    | al =>
      have e1 : ∀ Q, W1 (gEq (.tuple [.str "always"]) (.tuple [.str "always"])) Q = Q (.bool true) := fun Q => e1 Q
      simp (config := {maxSteps := 1000000}) only [mf_is_met, mb_is_met, mb_is_met_1, Co.D, e1, Co.hold, Fj.wp0, Fj.wp1, Fj.wp2, Fj.wp3, Fj.wp4, Fj.wp5, Fj.wp6, Fj.wp7, Fj.wp8, Fj.wp9, Fj.wp10, Fj.wp11, Fj.wp12, Fj.wp13, Fj.wp14, Fj.wp15, Fj.wp16, Fj.wp17, Fj.wp18, Fj.wp19, Fj.wp20, Fj.wp21, Fj.wpz, Fj.wq0, Fj.wq1, Fj.wq2, Fj.tyN, Int.reduceEq, Int.reduceLT, Int.reduceLE, Int.reduceAdd, Int.reduceSub, Int.reduceMul, Int.reduceNeg, Int.reducePow, Int.reduceToNat, Int.reduceMod, Int.reduceDiv, Int.reduceNe, Nat.reduceEqDiff, Nat.reduceMul, borOk, dkAll, dkKept, nlD, nlAll, id, frz, freeE, outsE, pick, merE, wipeE, Nat.reduceAdd, Nat.reduceSub, Nat.reduceLeDiff, Nat.reduceLT, reduceCtorEq, if_true, if_false, eq_self, forall_const, Bool.false_and, frzT, String.reduceEq]
    | is k v =>
      have hp := ok (k, v) (List.mem_singleton.mpr rfl)
      have e1 : ∀ Q, W1 (gEq (.tuple [.str "is", .str k, .str v]) (.tuple [.str "always"])) Q = Q (.bool false) := fun Q => e1 Q
      have e2 : ∀ Q, W1 (gIn (.tuple [.str k, .str v]) (tgD t)) Q = Q (.bool (decide ((k, v) ∈ t))) := fun Q => pr_in hp ht
      simp (config := {maxSteps := 1000000}) only [mf_is_met, mb_is_met, mb_is_met_1, mb_is_met_2, Co.D, e1, cut_1c, e2, Co.hold, Fj.wp0, Fj.wp1, Fj.wp2, Fj.wp3, Fj.wp4, Fj.wp5, Fj.wp6, Fj.wp7, Fj.wp8, Fj.wp9, Fj.wp10, Fj.wp11, Fj.wp12, Fj.wp13, Fj.wp14, Fj.wp15, Fj.wp16, Fj.wp17, Fj.wp18, Fj.wp19, Fj.wp20, Fj.wp21, Fj.wpz, Fj.wq0, Fj.wq1, Fj.wq2, Fj.tyN, Int.reduceEq, Int.reduceLT, Int.reduceLE, Int.reduceAdd, Int.reduceSub, Int.reduceMul, Int.reduceNeg, Int.reducePow, Int.reduceToNat, Int.reduceMod, Int.reduceDiv, Int.reduceNe, Nat.reduceEqDiff, Nat.reduceMul, borOk, dkAll, dkKept, nlD, nlAll, id, frz, freeE, outsE, pick, merE, wipeE, Nat.reduceAdd, Nat.reduceSub, Nat.reduceLeDiff, Nat.reduceLT, reduceCtorEq, if_true, if_false, eq_self, forall_const, Bool.false_and, frzT, String.reduceEq]
    | no c =>
      have ih := p_met n c t (by simp [Co.dep] at h; omega) (by omega) ok ht
      have e1 : ∀ Q, W1 (gEq (.tuple [.str "not", c.D]) (.tuple [.str "always"])) Q = Q (.bool false) := fun Q => e1 Q
      simp (config := {maxSteps := 1000000}) only [mf_is_met, mb_is_met, mb_is_met_1, mb_is_met_2, mb_is_met_3, Co.D, e1, ih, Co.hold, Fj.wp0, Fj.wp1, Fj.wp2, Fj.wp3, Fj.wp4, Fj.wp5, Fj.wp6, Fj.wp7, Fj.wp8, Fj.wp9, Fj.wp10, Fj.wp11, Fj.wp12, Fj.wp13, Fj.wp14, Fj.wp15, Fj.wp16, Fj.wp17, Fj.wp18, Fj.wp19, Fj.wp20, Fj.wp21, Fj.wpz, Fj.wq0, Fj.wq1, Fj.wq2, Fj.tyN, Int.reduceEq, Int.reduceLT, Int.reduceLE, Int.reduceAdd, Int.reduceSub, Int.reduceMul, Int.reduceNeg, Int.reducePow, Int.reduceToNat, Int.reduceMod, Int.reduceDiv, Int.reduceNe, Nat.reduceEqDiff, Nat.reduceMul, borOk, dkAll, dkKept, nlD, nlAll, id, frz, freeE, outsE, pick, merE, wipeE, Nat.reduceAdd, Nat.reduceSub, Nat.reduceLeDiff, Nat.reduceLT, reduceCtorEq, if_true, if_false, eq_self, forall_const, Bool.false_and, frzT, String.reduceEq]
    | bo c d =>
      have ih := p_met n c t (by simp [Co.dep] at h; omega) (by omega) (Co.ok2 ok).1 ht
      have ih2 := p_met n d t (by simp [Co.dep] at h; omega) (by omega) (Co.ok2 ok).2 ht
      have e1 : ∀ Q, W1 (gEq (.tuple [.str "both", c.D, d.D]) (.tuple [.str "always"])) Q = Q (.bool false) := fun Q => e1 Q
      cases hc : c.hold t <;> rw [hc] at ih <;> simp (config := {maxSteps := 1000000}) only [mf_is_met, mb_is_met, mb_is_met_1, mb_is_met_2, mb_is_met_3, mb_is_met_4, Co.D, e1, ih, ih2, Co.hold, hc, Fj.wp0, Fj.wp1, Fj.wp2, Fj.wp3, Fj.wp4, Fj.wp5, Fj.wp6, Fj.wp7, Fj.wp8, Fj.wp9, Fj.wp10, Fj.wp11, Fj.wp12, Fj.wp13, Fj.wp14, Fj.wp15, Fj.wp16, Fj.wp17, Fj.wp18, Fj.wp19, Fj.wp20, Fj.wp21, Fj.wpz, Fj.wq0, Fj.wq1, Fj.wq2, Fj.tyN, Int.reduceEq, Int.reduceLT, Int.reduceLE, Int.reduceAdd, Int.reduceSub, Int.reduceMul, Int.reduceNeg, Int.reducePow, Int.reduceToNat, Int.reduceMod, Int.reduceDiv, Int.reduceNe, Nat.reduceEqDiff, Nat.reduceMul, borOk, dkAll, dkKept, nlD, nlAll, id, frz, freeE, outsE, pick, merE, wipeE, Nat.reduceAdd, Nat.reduceSub, Nat.reduceLeDiff, Nat.reduceLT, reduceCtorEq, if_true, if_false, eq_self, forall_const, Bool.false_and, frzT, String.reduceEq]
    | ei c d =>
      have ih := p_met n c t (by simp [Co.dep] at h; omega) (by omega) (Co.ok2 ok).1 ht
      have ih2 := p_met n d t (by simp [Co.dep] at h; omega) (by omega) (Co.ok2 ok).2 ht
      have e1 : ∀ Q, W1 (gEq (.tuple [.str "either", c.D, d.D]) (.tuple [.str "always"])) Q = Q (.bool false) := fun Q => e1 Q
      cases hc : c.hold t <;> rw [hc] at ih <;> simp (config := {maxSteps := 1000000}) only [mf_is_met, mb_is_met, mb_is_met_1, mb_is_met_2, mb_is_met_3, mb_is_met_4, Co.D, e1, ih, ih2, Co.hold, hc, Fj.wp0, Fj.wp1, Fj.wp2, Fj.wp3, Fj.wp4, Fj.wp5, Fj.wp6, Fj.wp7, Fj.wp8, Fj.wp9, Fj.wp10, Fj.wp11, Fj.wp12, Fj.wp13, Fj.wp14, Fj.wp15, Fj.wp16, Fj.wp17, Fj.wp18, Fj.wp19, Fj.wp20, Fj.wp21, Fj.wpz, Fj.wq0, Fj.wq1, Fj.wq2, Fj.tyN, Int.reduceEq, Int.reduceLT, Int.reduceLE, Int.reduceAdd, Int.reduceSub, Int.reduceMul, Int.reduceNeg, Int.reducePow, Int.reduceToNat, Int.reduceMod, Int.reduceDiv, Int.reduceNe, Nat.reduceEqDiff, Nat.reduceMul, borOk, dkAll, dkKept, nlD, nlAll, id, frz, freeE, outsE, pick, merE, wipeE, Nat.reduceAdd, Nat.reduceSub, Nat.reduceLeDiff, Nat.reduceLT, reduceCtorEq, if_true, if_false, eq_self, forall_const, Bool.false_and, frzT, String.reduceEq]
theorem does_eq {c : Co} {t : List (Str × Str)} (h : c.dep ≤ 40) (ok : c.ok) (ht : Tg t) : mf_does_hold [.val c.D, .val (tgD t)] = some (.val (.bool (c.hold t)), [.no, .no]) := by
  refine W_eq ?_
  simp (config := {maxSteps := 1000000}) only [mf_does_hold, mb_does_hold, need_cond_eq h ok, need_target_eq ht, p_met 40 c t h (by decide) ok ht.ok, Fj.wp0, Fj.wp1, Fj.wp2, Fj.wp3, Fj.wp4, Fj.wp5, Fj.wp6, Fj.wp7, Fj.wp8, Fj.wp9, Fj.wp10, Fj.wp11, Fj.wp12, Fj.wp13, Fj.wp14, Fj.wp15, Fj.wp16, Fj.wp17, Fj.wp18, Fj.wp19, Fj.wp20, Fj.wp21, Fj.wpz, Fj.wq0, Fj.wq1, Fj.wq2, Fj.tyN, Int.reduceEq, Int.reduceLT, Int.reduceLE, Int.reduceAdd, Int.reduceSub, Int.reduceMul, Int.reduceNeg, Int.reducePow, Int.reduceToNat, Int.reduceMod, Int.reduceDiv, Int.reduceNe, Nat.reduceEqDiff, Nat.reduceMul, borOk, dkAll, dkKept, nlD, nlAll, id, frz, freeE, outsE, pick, merE, wipeE, Nat.reduceAdd, Nat.reduceSub, Nat.reduceLeDiff, Nat.reduceLT, reduceCtorEq, if_true, if_false, eq_self, forall_const, Bool.false_and, frzT, String.reduceEq]
end L_k16

set_option maxRecDepth 100000
set_option maxHeartbeats 0
set_option linter.all false
set_option linter.unusedSimpArgs false
namespace L_k16
open PySem PySem.Spec PyProof.Rows L2 Fj
/-! conditions, by the law -/
theorem q_holds : ∀ (n : Nat) (c : Co) (t : List (Str × Str)), c.dep ≤ n → n ≤ 60 → c.ok → (∀ q ∈ t, okQ q) → mf__law_holds n [.val c.D, .val (tgD t)] = some (.val (.bool (c.hold t)), [.no, .no])
  | 0, c, t, h, _, _, _ => by cases c <;> simp [Co.dep] at h
  | n + 1, c, t, h, hn, ok, ht => by
    refine W_eq ?_
    cases c with
    | al => simp (config := {maxSteps := 1000000}) only [mf__law_holds, mb__law_holds, mb__law_holds_1, mb__law_holds_2, mb__law_holds_3, mb__law_holds_4, Co.D, Co.hold, Fj.wp0, Fj.wp1, Fj.wp2, Fj.wp3, Fj.wp4, Fj.wp5, Fj.wp6, Fj.wp7, Fj.wp8, Fj.wp9, Fj.wp10, Fj.wp11, Fj.wp12, Fj.wp13, Fj.wp14, Fj.wp15, Fj.wp16, Fj.wp17, Fj.wp18, Fj.wp19, Fj.wp20, Fj.wp21, Fj.wpz, Fj.wq0, Fj.wq1, Fj.wq2, Fj.tyN, Int.reduceEq, Int.reduceLT, Int.reduceLE, Int.reduceAdd, Int.reduceSub, Int.reduceMul, Int.reduceNeg, Int.reducePow, Int.reduceToNat, Int.reduceMod, Int.reduceDiv, Int.reduceNe, Nat.reduceEqDiff, Nat.reduceMul, borOk, dkAll, dkKept, nlD, nlAll, id, frz, freeE, outsE, pick, merE, wipeE, Nat.reduceAdd, Nat.reduceSub, Nat.reduceLeDiff, Nat.reduceLT, reduceCtorEq, if_true, if_false, eq_self, forall_const, Bool.false_and, frzT, String.reduceEq]
    | is k v =>
      have hp := ok (k, v) (List.mem_singleton.mpr rfl)
      have e2 : ∀ Q, W1 (gIn (.tuple [.str k, .str v]) (tgD t)) Q = Q (.bool (decide ((k, v) ∈ t))) := fun Q => pr_in hp ht
      simp (config := {maxSteps := 1000000}) only [mf__law_holds, mb__law_holds, mb__law_holds_1, Co.D, cut_1c, e2, Co.hold, Fj.wp0, Fj.wp1, Fj.wp2, Fj.wp3, Fj.wp4, Fj.wp5, Fj.wp6, Fj.wp7, Fj.wp8, Fj.wp9, Fj.wp10, Fj.wp11, Fj.wp12, Fj.wp13, Fj.wp14, Fj.wp15, Fj.wp16, Fj.wp17, Fj.wp18, Fj.wp19, Fj.wp20, Fj.wp21, Fj.wpz, Fj.wq0, Fj.wq1, Fj.wq2, Fj.tyN, Int.reduceEq, Int.reduceLT, Int.reduceLE, Int.reduceAdd, Int.reduceSub, Int.reduceMul, Int.reduceNeg, Int.reducePow, Int.reduceToNat, Int.reduceMod, Int.reduceDiv, Int.reduceNe, Nat.reduceEqDiff, Nat.reduceMul, borOk, dkAll, dkKept, nlD, nlAll, id, frz, freeE, outsE, pick, merE, wipeE, Nat.reduceAdd, Nat.reduceSub, Nat.reduceLeDiff, Nat.reduceLT, reduceCtorEq, if_true, if_false, eq_self, forall_const, Bool.false_and, frzT, String.reduceEq]
    | no c =>
      have ih := q_holds n c t (by simp [Co.dep] at h; omega) (by omega) ok ht
      simp (config := {maxSteps := 1000000}) only [mf__law_holds, mb__law_holds, mb__law_holds_1, mb__law_holds_2, Co.D, ih, Co.hold, Fj.wp0, Fj.wp1, Fj.wp2, Fj.wp3, Fj.wp4, Fj.wp5, Fj.wp6, Fj.wp7, Fj.wp8, Fj.wp9, Fj.wp10, Fj.wp11, Fj.wp12, Fj.wp13, Fj.wp14, Fj.wp15, Fj.wp16, Fj.wp17, Fj.wp18, Fj.wp19, Fj.wp20, Fj.wp21, Fj.wpz, Fj.wq0, Fj.wq1, Fj.wq2, Fj.tyN, Int.reduceEq, Int.reduceLT, Int.reduceLE, Int.reduceAdd, Int.reduceSub, Int.reduceMul, Int.reduceNeg, Int.reducePow, Int.reduceToNat, Int.reduceMod, Int.reduceDiv, Int.reduceNe, Nat.reduceEqDiff, Nat.reduceMul, borOk, dkAll, dkKept, nlD, nlAll, id, frz, freeE, outsE, pick, merE, wipeE, Nat.reduceAdd, Nat.reduceSub, Nat.reduceLeDiff, Nat.reduceLT, reduceCtorEq, if_true, if_false, eq_self, forall_const, Bool.false_and, frzT, String.reduceEq]
    | bo c d =>
      have ih := q_holds n c t (by simp [Co.dep] at h; omega) (by omega) (Co.ok2 ok).1 ht
      have ih2 := q_holds n d t (by simp [Co.dep] at h; omega) (by omega) (Co.ok2 ok).2 ht
      cases hc : c.hold t <;> rw [hc] at ih <;> simp (config := {maxSteps := 1000000}) only [mf__law_holds, mb__law_holds, mb__law_holds_1, mb__law_holds_2, mb__law_holds_3, Co.D, ih, ih2, Co.hold, hc, Fj.wp0, Fj.wp1, Fj.wp2, Fj.wp3, Fj.wp4, Fj.wp5, Fj.wp6, Fj.wp7, Fj.wp8, Fj.wp9, Fj.wp10, Fj.wp11, Fj.wp12, Fj.wp13, Fj.wp14, Fj.wp15, Fj.wp16, Fj.wp17, Fj.wp18, Fj.wp19, Fj.wp20, Fj.wp21, Fj.wpz, Fj.wq0, Fj.wq1, Fj.wq2, Fj.tyN, Int.reduceEq, Int.reduceLT, Int.reduceLE, Int.reduceAdd, Int.reduceSub, Int.reduceMul, Int.reduceNeg, Int.reducePow, Int.reduceToNat, Int.reduceMod, Int.reduceDiv, Int.reduceNe, Nat.reduceEqDiff, Nat.reduceMul, borOk, dkAll, dkKept, nlD, nlAll, id, frz, freeE, outsE, pick, merE, wipeE, Nat.reduceAdd, Nat.reduceSub, Nat.reduceLeDiff, Nat.reduceLT, reduceCtorEq, if_true, if_false, eq_self, forall_const, Bool.false_and, frzT, String.reduceEq]
    | ei c d =>
      have ih := q_holds n c t (by simp [Co.dep] at h; omega) (by omega) (Co.ok2 ok).1 ht
      have ih2 := q_holds n d t (by simp [Co.dep] at h; omega) (by omega) (Co.ok2 ok).2 ht
      cases hc : c.hold t <;> rw [hc] at ih <;> simp (config := {maxSteps := 1000000}) only [mf__law_holds, mb__law_holds, mb__law_holds_1, mb__law_holds_2, mb__law_holds_3, mb__law_holds_4, Co.D, ih, ih2, Co.hold, hc, Fj.wp0, Fj.wp1, Fj.wp2, Fj.wp3, Fj.wp4, Fj.wp5, Fj.wp6, Fj.wp7, Fj.wp8, Fj.wp9, Fj.wp10, Fj.wp11, Fj.wp12, Fj.wp13, Fj.wp14, Fj.wp15, Fj.wp16, Fj.wp17, Fj.wp18, Fj.wp19, Fj.wp20, Fj.wp21, Fj.wpz, Fj.wq0, Fj.wq1, Fj.wq2, Fj.tyN, Int.reduceEq, Int.reduceLT, Int.reduceLE, Int.reduceAdd, Int.reduceSub, Int.reduceMul, Int.reduceNeg, Int.reducePow, Int.reduceToNat, Int.reduceMod, Int.reduceDiv, Int.reduceNe, Nat.reduceEqDiff, Nat.reduceMul, borOk, dkAll, dkKept, nlD, nlAll, id, frz, freeE, outsE, pick, merE, wipeE, Nat.reduceAdd, Nat.reduceSub, Nat.reduceLeDiff, Nat.reduceLT, reduceCtorEq, if_true, if_false, eq_self, forall_const, Bool.false_and, frzT, String.reduceEq]
theorem prs_len : ∀ c : Co, c.prs.length ≤ c.siz
  | .al => by simp [Co.prs]
  | .is k v => by simp [Co.prs, Co.siz]
  | .no c => by
    have := prs_len c
    simp [Co.prs, Co.siz]
    omega
  | .bo c d => by
    have := prs_len c
    have := prs_len d
    simp [Co.prs, Co.siz]
    omega
  | .ei c d => by
    have := prs_len c
    have := prs_len d
    simp [Co.prs, Co.siz]
    omega
theorem q_prs : ∀ (n : Nat) (c : Co), c.dep ≤ n → n ≤ 60 → c.siz ≤ 1000 → mf__law_pairs_in n [.val c.D] = some (.own true (.lst (c.prs.map kvD)), [.no])
  | 0, c, h, _, _ => by cases c <;> simp [Co.dep] at h
  | n + 1, c, h, hn, hz => by
    refine W_eq ?_
    cases c with
    | al =>
      have e0 : cutD [PyData.str "always"] (some 1) none = [] := rfl
      simp (config := {maxSteps := 1000000}) only [mf__law_pairs_in, mb__law_pairs_in, mb__law_pairs_in_1, mb__law_pairs_in_2, Co.D, e0, w_forNil, Co.prs, Fj.wp0, Fj.wp1, Fj.wp2, Fj.wp3, Fj.wp4, Fj.wp5, Fj.wp6, Fj.wp7, Fj.wp8, Fj.wp9, Fj.wp10, Fj.wp11, Fj.wp12, Fj.wp13, Fj.wp14, Fj.wp15, Fj.wp16, Fj.wp17, Fj.wp18, Fj.wp19, Fj.wp20, Fj.wp21, Fj.wpz, Fj.wq0, Fj.wq1, Fj.wq2, Fj.tyN, Int.reduceEq, Int.reduceLT, Int.reduceLE, Int.reduceAdd, Int.reduceSub, Int.reduceMul, Int.reduceNeg, Int.reducePow, Int.reduceToNat, Int.reduceMod, Int.reduceDiv, Int.reduceNe, Nat.reduceEqDiff, Nat.reduceMul, borOk, dkAll, dkKept, nlD, nlAll, id, frz, freeE, outsE, pick, merE, wipeE, Nat.reduceAdd, Nat.reduceSub, Nat.reduceLeDiff, Nat.reduceLT, reduceCtorEq, if_true, if_false, eq_self, forall_const, Bool.false_and, frzT, String.reduceEq]
    | is k v => simp (config := {maxSteps := 1000000}) only [mf__law_pairs_in, mb__law_pairs_in, mb__law_pairs_in_1, Co.D, cut_1c, Co.prs, Fj.wp0, Fj.wp1, Fj.wp2, Fj.wp3, Fj.wp4, Fj.wp5, Fj.wp6, Fj.wp7, Fj.wp8, Fj.wp9, Fj.wp10, Fj.wp11, Fj.wp12, Fj.wp13, Fj.wp14, Fj.wp15, Fj.wp16, Fj.wp17, Fj.wp18, Fj.wp19, Fj.wp20, Fj.wp21, Fj.wpz, Fj.wq0, Fj.wq1, Fj.wq2, Fj.tyN, Int.reduceEq, Int.reduceLT, Int.reduceLE, Int.reduceAdd, Int.reduceSub, Int.reduceMul, Int.reduceNeg, Int.reducePow, Int.reduceToNat, Int.reduceMod, Int.reduceDiv, Int.reduceNe, Nat.reduceEqDiff, Nat.reduceMul, borOk, dkAll, dkKept, nlD, nlAll, id, frz, freeE, outsE, pick, merE, wipeE, Nat.reduceAdd, Nat.reduceSub, Nat.reduceLeDiff, Nat.reduceLT, reduceCtorEq, if_true, if_false, eq_self, forall_const, Bool.false_and, frzT, String.reduceEq]
    | no c =>
      have ih := q_prs n c (by simp [Co.dep] at h; omega) (by omega) (by simp [Co.siz] at hz; omega)
      have hl := prs_len c
      have hl : (c.prs.map kvD).length ≤ 100000 := by rw [List.length_map]; simp [Co.siz] at hz; omega
      simp (config := {maxSteps := 1000000}) only [mf__law_pairs_in, mb__law_pairs_in, mb__law_pairs_in_1, mb__law_pairs_in_2, Co.D, cut_1b, w_forCons, w_forNil, ih, Co.prs, hl, Fj.wp0, Fj.wp1, Fj.wp2, Fj.wp3, Fj.wp4, Fj.wp5, Fj.wp6, Fj.wp7, Fj.wp8, Fj.wp9, Fj.wp10, Fj.wp11, Fj.wp12, Fj.wp13, Fj.wp14, Fj.wp15, Fj.wp16, Fj.wp17, Fj.wp18, Fj.wp19, Fj.wp20, Fj.wp21, Fj.wpz, Fj.wq0, Fj.wq1, Fj.wq2, Fj.tyN, Int.reduceEq, Int.reduceLT, Int.reduceLE, Int.reduceAdd, Int.reduceSub, Int.reduceMul, Int.reduceNeg, Int.reducePow, Int.reduceToNat, Int.reduceMod, Int.reduceDiv, Int.reduceNe, Nat.reduceEqDiff, Nat.reduceMul, borOk, dkAll, dkKept, nlD, nlAll, id, frz, freeE, outsE, pick, merE, wipeE, Nat.reduceAdd, Nat.reduceSub, Nat.reduceLeDiff, Nat.reduceLT, reduceCtorEq, if_true, if_false, eq_self, forall_const, Bool.false_and, frzT, String.reduceEq]
    | bo c d =>
      have ih := q_prs n c (by simp [Co.dep] at h; omega) (by omega) (by simp [Co.siz] at hz; omega)
      have ih2 := q_prs n d (by simp [Co.dep] at h; omega) (by omega) (by simp [Co.siz] at hz; omega)
      have hl := prs_len c
      have hl2 := prs_len d
      have hl3 : (c.prs.map kvD).length ≤ 100000 := by rw [List.length_map]; simp [Co.siz] at hz; omega
      have hl4 : (c.prs.map kvD).length + (d.prs.map kvD).length ≤ 100000 := by rw [List.length_map, List.length_map]; simp [Co.siz] at hz; omega
      simp (config := {maxSteps := 1000000}) only [mf__law_pairs_in, mb__law_pairs_in, mb__law_pairs_in_1, mb__law_pairs_in_2, Co.D, cut_1c, w_forCons, w_forNil, ih, ih2, Co.prs, hl3, hl4, List.map_append, Fj.wp0, Fj.wp1, Fj.wp2, Fj.wp3, Fj.wp4, Fj.wp5, Fj.wp6, Fj.wp7, Fj.wp8, Fj.wp9, Fj.wp10, Fj.wp11, Fj.wp12, Fj.wp13, Fj.wp14, Fj.wp15, Fj.wp16, Fj.wp17, Fj.wp18, Fj.wp19, Fj.wp20, Fj.wp21, Fj.wpz, Fj.wq0, Fj.wq1, Fj.wq2, Fj.tyN, Int.reduceEq, Int.reduceLT, Int.reduceLE, Int.reduceAdd, Int.reduceSub, Int.reduceMul, Int.reduceNeg, Int.reducePow, Int.reduceToNat, Int.reduceMod, Int.reduceDiv, Int.reduceNe, Nat.reduceEqDiff, Nat.reduceMul, borOk, dkAll, dkKept, nlD, nlAll, id, frz, freeE, outsE, pick, merE, wipeE, Nat.reduceAdd, Nat.reduceSub, Nat.reduceLeDiff, Nat.reduceLT, reduceCtorEq, if_true, if_false, eq_self, forall_const, Bool.false_and, frzT, String.reduceEq]
    | ei c d =>
      have ih := q_prs n c (by simp [Co.dep] at h; omega) (by omega) (by simp [Co.siz] at hz; omega)
      have ih2 := q_prs n d (by simp [Co.dep] at h; omega) (by omega) (by simp [Co.siz] at hz; omega)
      have hl := prs_len c
      have hl2 := prs_len d
      have hl3 : (c.prs.map kvD).length ≤ 100000 := by rw [List.length_map]; simp [Co.siz] at hz; omega
      have hl4 : (c.prs.map kvD).length + (d.prs.map kvD).length ≤ 100000 := by rw [List.length_map, List.length_map]; simp [Co.siz] at hz; omega
      simp (config := {maxSteps := 1000000}) only [mf__law_pairs_in, mb__law_pairs_in, mb__law_pairs_in_1, mb__law_pairs_in_2, Co.D, cut_1c, w_forCons, w_forNil, ih, ih2, Co.prs, hl3, hl4, List.map_append, Fj.wp0, Fj.wp1, Fj.wp2, Fj.wp3, Fj.wp4, Fj.wp5, Fj.wp6, Fj.wp7, Fj.wp8, Fj.wp9, Fj.wp10, Fj.wp11, Fj.wp12, Fj.wp13, Fj.wp14, Fj.wp15, Fj.wp16, Fj.wp17, Fj.wp18, Fj.wp19, Fj.wp20, Fj.wp21, Fj.wpz, Fj.wq0, Fj.wq1, Fj.wq2, Fj.tyN, Int.reduceEq, Int.reduceLT, Int.reduceLE, Int.reduceAdd, Int.reduceSub, Int.reduceMul, Int.reduceNeg, Int.reducePow, Int.reduceToNat, Int.reduceMod, Int.reduceDiv, Int.reduceNe, Nat.reduceEqDiff, Nat.reduceMul, borOk, dkAll, dkKept, nlD, nlAll, id, frz, freeE, outsE, pick, merE, wipeE, Nat.reduceAdd, Nat.reduceSub, Nat.reduceLeDiff, Nat.reduceLT, reduceCtorEq, if_true, if_false, eq_self, forall_const, Bool.false_and, frzT, String.reduceEq]
/-! all targets -/
/-- what a dict of rows holds: texts, each once -/
structure Rw (ps : List (Str × Str)) (kvs : List (Str × List Str)) : Prop where
  nd : (kvs.map (·.1)).Nodup
  sum : (kvs.map fun p => p.2.length).sum = ps.length
  sub : ∀ p ∈ kvs, ∀ v ∈ p.2, (p.1, v) ∈ ps
  pos : ∀ p ∈ kvs, 1 ≤ p.2.length
def addW : List (Str × List Str) → Str → Str → List (Str × List Str)
  | [], k, v => [(k, [v])]
  | p :: r, k, v => if p.1 = k then (k, p.2 ++ [v]) :: r else p :: addW r k v
abbrev rwD (kvs : List (Str × List Str)) : List (Str × List PyData) := kvs.map fun p => (p.1, p.2.map .str)
theorem addW_map (k v : Str) : ∀ kvs : List (Str × List Str), addS (rwD kvs) k (.str v) = rwD (addW kvs k v)
  | [] => rfl
  | p :: r => by
    unfold rwD addW
    rw [List.map_cons, addS]
    by_cases e : p.1 = k
    · rw [if_pos e, if_pos e, List.map_cons, List.map_append]
      rfl
    · rw [if_neg e, if_neg e, List.map_cons]
      exact congrArg (List.cons _) (addW_map k v r)
theorem addW_keys (k v : Str) : ∀ kvs : List (Str × List Str), ∀ x, x ∈ (addW kvs k v).map (·.1) ↔ x = k ∨ x ∈ kvs.map (·.1)
  | [], x => by simp [addW]
  | p :: r, x => by
    unfold addW
    by_cases e : p.1 = k
    · rw [if_pos e, List.map_cons, List.map_cons, List.mem_cons, List.mem_cons, e]
      exact ⟨fun h => h.elim .inl fun h => .inr (.inr h), fun h => h.elim .inl fun h => h.elim .inl .inr⟩
    · rw [if_neg e, List.map_cons, List.map_cons, List.mem_cons, List.mem_cons, addW_keys k v r]
      exact ⟨fun h => h.elim (fun h => .inr (.inl h)) fun h => h.elim .inl fun h => .inr (.inr h), fun h => h.elim (fun h => .inr (.inl h)) fun h => h.elim .inl fun h => .inr (.inr h)⟩
theorem Rw.nil : Rw [] [] := ⟨List.nodup_nil, rfl, fun p h => (List.not_mem_nil h).elim, fun p h => (List.not_mem_nil h).elim⟩
theorem addW_nd {k v : Str} : ∀ {kvs : List (Str × List Str)}, (kvs.map (·.1)).Nodup → ((addW kvs k v).map (·.1)).Nodup
  | [], _ => by simp [addW]
  | p :: r, h => by
    have h := List.nodup_cons.mp h
    unfold addW
    by_cases e : p.1 = k
    · rw [if_pos e, List.map_cons, ← e]
      exact List.nodup_cons.mpr h
    · rw [if_neg e, List.map_cons]
      refine List.nodup_cons.mpr ⟨fun z => ?_, addW_nd h.2⟩
      rcases (addW_keys k v r p.1).mp z with z | z
      · exact e z
      · exact h.1 z
theorem addW_sum {k v : Str} : ∀ kvs : List (Str × List Str), ((addW kvs k v).map fun p => p.2.length).sum = (kvs.map fun p => p.2.length).sum + 1
  | [] => rfl
  | p :: r => by
    unfold addW
    by_cases e : p.1 = k
    · rw [if_pos e]
      simp
      omega
    · rw [if_neg e, List.map_cons, List.sum_cons, addW_sum r, List.map_cons, List.sum_cons]
      omega
theorem addW_mem {k v : Str} : ∀ {kvs : List (Str × List Str)} {q : Str × List Str}, q ∈ addW kvs k v → q ∈ kvs ∨ (q.1 = k ∧ ∃ vs, q.2 = vs ++ [v] ∧ (vs = [] ∨ (k, vs) ∈ kvs))
  | [], q, h => by
    rw [List.mem_singleton.mp h]
    exact .inr ⟨rfl, [], rfl, .inl rfl⟩
  | p :: r, q, h => by
    unfold addW at h
    by_cases e : p.1 = k
    · rw [if_pos e] at h
      rcases List.mem_cons.mp h with h | h
      · rw [h]
        refine .inr ⟨rfl, p.2, rfl, .inr ?_⟩
        rw [← e]
        exact List.mem_cons_self ..
      · exact .inl (List.mem_cons_of_mem _ h)
    · rw [if_neg e] at h
      rcases List.mem_cons.mp h with h | h
      · rw [h]
        exact .inl (List.mem_cons_self ..)
      · rcases addW_mem h with h | ⟨h1, vs, h2, h3⟩
        · exact .inl (List.mem_cons_of_mem _ h)
        · exact .inr ⟨h1, vs, h2, h3.imp id fun h => List.mem_cons_of_mem _ h⟩
theorem Rw.add {ps : List (Str × Str)} {kvs : List (Str × List Str)} (h : Rw ps kvs) (k v : Str) : Rw (ps ++ [(k, v)]) (addW kvs k v) := by
  refine ⟨addW_nd h.nd, by rw [addW_sum, h.sum, List.length_append, List.length_singleton], fun q hq w hw => ?_, fun q hq => ?_⟩
  · rcases addW_mem hq with g | ⟨g1, vs, g2, g3⟩
    · exact List.mem_append_left _ (h.sub q g w hw)
    · rw [g2] at hw
      rw [g1]
      rcases List.mem_append.mp hw with z | z
      · rcases g3 with g3 | g3
        · rw [g3] at z
          cases z
        · exact List.mem_append_left _ (h.sub _ g3 w z)
      · rw [List.mem_singleton.mp z]
        exact List.mem_append_right _ (List.mem_singleton.mpr rfl)
  · rcases addW_mem hq with g | ⟨g1, vs, g2, g3⟩
    · exact h.pos q g
    · rw [g2, List.length_append, List.length_singleton]
      omega
theorem sum_mem {α : Type} {f : α → Nat} : ∀ {xs : List α} {x : α}, x ∈ xs → f x ≤ (xs.map f).sum
  | y :: ys, x, h => by
    rw [List.map_cons, List.sum_cons]
    rcases List.mem_cons.mp h with e | e
    · rw [e]
      omega
    · have := sum_mem (f := f) e
      omega
theorem len_sum {α : Type} {f : α → Nat} : ∀ {xs : List α}, (∀ x ∈ xs, 1 ≤ f x) → xs.length ≤ (xs.map f).sum
  | [], _ => Nat.zero_le _
  | y :: ys, h => by
    rw [List.map_cons, List.sum_cons, List.length_cons]
    have := len_sum (f := f) fun x hx => h x (List.mem_cons_of_mem _ hx)
    have := h y (List.mem_cons_self ..)
    omega
theorem perm_sum {α : Type} {f : α → Nat} {xs ys : List α} (h : xs.Perm ys) : (xs.map f).sum = (ys.map f).sum := (h.map f).sum_nat
def lenW (kvs : List (Str × List Str)) (k : Str) : Nat := ((kvs.lookup k).getD []).length
theorem look_mem {kvs : List (Str × List Str)} {k : Str} (h : k ∈ kvs.map (·.1)) : ∃ vs, kvs.lookup k = some vs ∧ (k, vs) ∈ kvs := by
  induction kvs with
  | nil => cases h
  | cons p r ih =>
    rw [List.lookup_cons]
    by_cases e : k = p.1
    · have : (k == p.1) = true := by rw [e]; exact beq_self_eq_true _
      rw [this]
      exact ⟨p.2, rfl, by rw [e]; exact List.mem_cons_self ..⟩
    · have h2 : (k == p.1) = false := beq_eq_false_iff_ne.mpr e
      rw [h2]
      rw [List.map_cons] at h
      obtain ⟨vs, h3, h4⟩ := ih ((List.mem_cons.mp h).resolve_left e)
      exact ⟨vs, h3, List.mem_cons_of_mem _ h4⟩
theorem lenW_sum {kvs : List (Str × List Str)} (nd : (kvs.map (·.1)).Nodup) : ((kvs.map (·.1)).map (lenW kvs)).sum = (kvs.map fun p => p.2.length).sum := by
  have : ∀ p ∈ kvs, lenW kvs p.1 = p.2.length := by
    intro p hp
    obtain ⟨vs, h1, h2⟩ := look_mem (k := p.1) (List.mem_map.mpr ⟨p, hp, rfl⟩)
    have e : vs = p.2 := by
      clear h1
      induction kvs with
      | nil => cases hp
      | cons q r ih =>
        have nd := List.nodup_cons.mp nd
        rcases List.mem_cons.mp hp with e1 | e1
        · rcases List.mem_cons.mp h2 with e2 | e2
          · rw [e1, ← e2]
          · exact absurd (List.mem_map.mpr ⟨_, e2, by rw [e1]⟩) nd.1
        · rcases List.mem_cons.mp h2 with e2 | e2
          · exact absurd (List.mem_map.mpr ⟨_, e1, by rw [← e2]⟩) nd.1
          · exact ih nd.2 e1 e2
    unfold lenW
    rw [h1, e]
    rfl
  rw [List.map_map]
  exact congrArg List.sum (List.map_congr_left this)
end L_k16

set_option maxRecDepth 100000
set_option maxHeartbeats 0
set_option linter.all false
set_option linter.unusedSimpArgs false
namespace L_k16
open PySem PySem.Spec PyProof.Rows L2 Fj
/-- targets over some keys -/
structure Ft (dk : List Str) (t : List (Str × Str)) : Prop where
  ok : ∀ p ∈ t, okQ p
  up : upP t
  len : t.length ≤ dk.length
  sub : ∀ p ∈ t, p.1 ∈ dk
theorem upP_snoc {t : List (Str × Str)} {p : Str × Str} (h : upP t) (g : ∀ q ∈ t, ltT q.1 p.1 = true) : upP (t ++ [p]) :=
  List.pairwise_append.mpr ⟨h, List.pairwise_singleton _ _, fun q hq r hr => by rw [List.mem_singleton.mp hr]; exact g q hq⟩
theorem Ft.add {dk : List Str} {t : List (Str × Str)} {k v : Str} (h : Ft dk t) (hk : ∀ x ∈ dk, ltT x k = true) (hq : okQ (k, v)) : Ft (dk ++ [k]) (t ++ [(k, v)]) :=
  ⟨fun p hp => (List.mem_append.mp hp).elim (h.ok p) fun z => by rw [List.mem_singleton.mp z]; exact hq, upP_snoc h.up fun q hq => hk _ (h.sub q hq), by rw [List.length_append, List.length_append, List.length_singleton, List.length_singleton]; have := h.len; omega, fun p hp => (List.mem_append.mp hp).elim (fun z => List.mem_append_left _ (h.sub p z)) fun z => by rw [List.mem_singleton.mp z]; exact List.mem_append_right _ (List.mem_singleton.mpr rfl)⟩
theorem Ft.more {dk : List Str} {t : List (Str × Str)} {k : Str} (h : Ft dk t) : Ft (dk ++ [k]) t := ⟨h.ok, h.up, by rw [List.length_append]; have := h.len; omega, fun p hp => List.mem_append_left _ (h.sub p hp)⟩
theorem two_pow_le {a b : Nat} (h : a ≤ b) : 2 ^ a ≤ 2 ^ b := Nat.pow_le_pow_right (by decide) h
theorem isort_up {xs : List Str} (nd : xs.Nodup) : (isort ltT xs).Pairwise (fun a b => ltT a b = true) := by
  have nd2 : (isort ltT xs).Nodup := (isort_perm _ _).nodup_iff.mpr nd
  exact ((isort_sorted ord_T _).and nd2).imp fun {a b} ⟨h1, h2⟩ => Bool.of_not_eq_false fun z => h2 (ltT_tot z h1)
theorem dedup_len {α : Type} [DecidableEq α] : ∀ xs : List α, (dedup xs).length ≤ xs.length
  | [] => Nat.le_refl _
  | x :: xs => by
    have := dedup_len xs
    unfold dedup
    split <;> simp <;> omega
theorem srtT_len (xs : List Str) : (srtT xs).length ≤ xs.length := by
  unfold srtT
  rw [(isort_perm _ _).length_eq]
  exact dedup_len xs
theorem q_all {c : Co} (hd : c.dep ≤ 40) (hz : c.siz ≤ 12) (ok : c.ok) : W (mf__law_all_targets [.val (.list [c.D])]) fun e o => o = [.no] ∧ ∃ ts : List (List (Str × Str)), e = .val (.list (ts.map tgD)) ∧ (∀ t ∈ ts, Tg t ∧ t.length ≤ 12) ∧ ts.length ≤ 5000 := by
  have hp := q_prs 40 c hd (by decide) (by omega)
  have hpl : c.prs.length ≤ 12 := Nat.le_trans (prs_len c) hz
  simp (config := {maxSteps := 1000000}) only [mf__law_all_targets, mb__law_all_targets, mb__law_all_targets_2, mb__law_all_targets_1, w_forCons, w_forNil, hp, Fj.wp0, Fj.wp1, Fj.wp2, Fj.wp3, Fj.wp4, Fj.wp5, Fj.wp6, Fj.wp7, Fj.wp8, Fj.wp9, Fj.wp10, Fj.wp11, Fj.wp12, Fj.wp13, Fj.wp14, Fj.wp15, Fj.wp16, Fj.wp17, Fj.wp18, Fj.wp19, Fj.wp20, Fj.wp21, Fj.wpz, Fj.wq0, Fj.wq1, Fj.wq2, Fj.tyN, Int.reduceEq, Int.reduceLT, Int.reduceLE, Int.reduceAdd, Int.reduceSub, Int.reduceMul, Int.reduceNeg, Int.reducePow, Int.reduceToNat, Int.reduceMod, Int.reduceDiv, Int.reduceNe, Nat.reduceEqDiff, Nat.reduceMul, borOk, dkAll, dkKept, nlD, nlAll, id, frz, freeE, outsE, pick, merE, wipeE, Nat.reduceAdd, Nat.reduceSub, Nat.reduceLeDiff, Nat.reduceLT, reduceCtorEq, if_true, if_false, eq_self, forall_const, Bool.false_and, frzT, String.reduceEq]
  refine w_forL (fun xs ρ => ∃ done rest kvs e2 e5 e6 e7 e8, c.prs = done ++ rest ∧ xs = rest.map kvD ∧ Rw done kvs ∧ Pl e2 ∧ Pl e5 ∧ Pl e6 ∧ Pl e7 ∧ Pl e8 ∧ ρ = [.val (.list [c.D]), .val c.D, e2, .val (.list [.tuple []]), .own true (.tr (lTr (rwD kvs))), e5, e6, e7, e8]) ?_ ?_ _ _ ⟨[], c.prs, [], _, _, _, _, _, rfl, rfl, Rw.nil, .no, .no, .no, .no, .no, rfl⟩
  · rintro x xs ρ ⟨done, rest, kvs, e2, e5, e6, e7, e8, h1, hx, h2, p2, p5, p6, p7, p8, rfl⟩
    cases rest with
    | nil => cases hx
    | cons p rest =>
      cases hx
      have hle : done.length + (rest.length + 1) ≤ 12 := by
        have := congrArg List.length h1
        rw [List.length_append, List.length_cons] at this
        omega
      have hk1 : kvs.length ≤ done.length := by
        rw [← h2.sum]
        exact len_sum h2.pos
      have hs := sda_lTr (rwD kvs) p.1 (.str p.2) (by rw [List.length_map]; omega) (fun q hq => by
        obtain ⟨r, hr, rfl⟩ := List.mem_map.mp hq
        have := sum_mem (f := fun p : Str × List Str => p.2.length) hr
        rw [h2.sum] at this
        show (r.2.map _).length < _
        rw [List.length_map]
        omega)
      rw [addW_map] at hs
      simp (config := {maxSteps := 1000000}) only [p2.all, p5.all, p6.all, p7.all, p8.all, hs, ne_eq, not_false_eq_true, Fj.wp0, Fj.wp1, Fj.wp2, Fj.wp3, Fj.wp4, Fj.wp5, Fj.wp6, Fj.wp7, Fj.wp8, Fj.wp9, Fj.wp10, Fj.wp11, Fj.wp12, Fj.wp13, Fj.wp14, Fj.wp15, Fj.wp16, Fj.wp17, Fj.wp18, Fj.wp19, Fj.wp20, Fj.wp21, Fj.wpz, Fj.wq0, Fj.wq1, Fj.wq2, Fj.tyN, Int.reduceEq, Int.reduceLT, Int.reduceLE, Int.reduceAdd, Int.reduceSub, Int.reduceMul, Int.reduceNeg, Int.reducePow, Int.reduceToNat, Int.reduceMod, Int.reduceDiv, Int.reduceNe, Nat.reduceEqDiff, Nat.reduceMul, borOk, dkAll, dkKept, nlD, nlAll, id, frz, freeE, outsE, pick, merE, wipeE, Nat.reduceAdd, Nat.reduceSub, Nat.reduceLeDiff, Nat.reduceLT, reduceCtorEq, if_true, if_false, eq_self, forall_const, Bool.false_and, frzT, String.reduceEq]
      exact ⟨done ++ [p], rest, addW kvs p.1 p.2, _, _, _, _, _, by rw [h1, List.append_assoc]; rfl, rfl, h2.add p.1 p.2, .val, p5, .val, .no, p8, rfl⟩
  · rintro ρ ⟨done, rest, kvs, e2, e5, e6, e7, e8, h1, hx, h2, p2, p5, p6, p7, p8, rfl⟩
    have : rest = [] := List.map_eq_nil_iff.mp hx.symm
    subst this
    rw [List.append_nil] at h1
    have hk1 : kvs.length ≤ 12 := by
      have := len_sum (f := fun p : Str × List Str => p.2.length) h2.pos
      rw [h2.sum, ← h1] at this
      omega
    have gs := fun (R : Ent → Prop) => g_sbl (R := R) (kvs := rwD kvs) (by rw [List.length_map]; omega)
    have eks : (rwD kvs).map (·.1) = kvs.map (·.1) := by
      unfold rwD
      rw [List.map_map]
      rfl
    rw [eks] at gs
    have hup := isort_up h2.nd
    have hkm : ∀ k ∈ isort ltT (kvs.map (·.1)), k ∈ kvs.map (·.1) := fun k hk => (isort_perm _ _).mem_iff.mp hk
    have hsum : ((isort ltT (kvs.map (·.1))).map (lenW kvs)).sum ≤ 12 := by
      rw [perm_sum (isort_perm ltT (kvs.map (·.1))), lenW_sum h2.nd, h2.sum, ← h1]
      exact hpl
    have hkl : (isort ltT (kvs.map (·.1))).length ≤ 12 := by
      rw [(isort_perm _ _).length_eq, List.length_map]
      exact hk1
    have hkq : ∀ k ∈ isort ltT (kvs.map (·.1)), ∃ vs, kvs.lookup k = some vs ∧ lenW kvs k = vs.length ∧ ∀ v ∈ vs, okQ (k, v) := fun k hk => by
      obtain ⟨vs, g1, g2⟩ := look_mem (hkm k hk)
      refine ⟨vs, g1, by unfold lenW; rw [g1]; rfl, fun v hv => ok _ ?_⟩
      rw [h1]
      exact h2.sub _ g2 v hv
    have lk : ∀ k, (rwD kvs).lookup k = (kvs.lookup k).map fun vs => vs.map .str := fun k => by
      unfold rwD
      clear hup hkm hsum hkl hkq gs eks h1 h2 hk1
      induction kvs with
      | nil => rfl
      | cons p r ih =>
        rw [List.map_cons, List.lookup_cons, List.lookup_cons, ih]
        cases k == p.1 <;> rfl
    simp (config := {maxSteps := 1000000}) only [p2.all, p5.all, p6.all, p7.all, p8.all, mb__law_all_targets_5, gs, Fj.wp0, Fj.wp1, Fj.wp2, Fj.wp3, Fj.wp4, Fj.wp5, Fj.wp6, Fj.wp7, Fj.wp8, Fj.wp9, Fj.wp10, Fj.wp11, Fj.wp12, Fj.wp13, Fj.wp14, Fj.wp15, Fj.wp16, Fj.wp17, Fj.wp18, Fj.wp19, Fj.wp20, Fj.wp21, Fj.wpz, Fj.wq0, Fj.wq1, Fj.wq2, Fj.tyN, Int.reduceEq, Int.reduceLT, Int.reduceLE, Int.reduceAdd, Int.reduceSub, Int.reduceMul, Int.reduceNeg, Int.reducePow, Int.reduceToNat, Int.reduceMod, Int.reduceDiv, Int.reduceNe, Nat.reduceEqDiff, Nat.reduceMul, borOk, dkAll, dkKept, nlD, nlAll, id, frz, freeE, outsE, pick, merE, wipeE, Nat.reduceAdd, Nat.reduceSub, Nat.reduceLeDiff, Nat.reduceLT, reduceCtorEq, if_true, if_false, eq_self, forall_const, Bool.false_and, frzT, String.reduceEq]
    clear gs
    generalize isort ltT (kvs.map (·.1)) = allk at hup hkm hsum hkl hkq
    refine w_forL (fun xs ρ => ∃ dk rk fs e2 e5 e6 e7 e8, allk = dk ++ rk ∧ xs = rk.map .str ∧ (∀ t ∈ fs, Ft dk t) ∧ fs.length ≤ 2 ^ (dk.map (lenW kvs)).sum ∧ Pl e2 ∧ Pl e5 ∧ Pl e6 ∧ Pl e7 ∧ Pl e8 ∧ ρ = [.val (.list [c.D]), .val c.D, e2, .val (.list (fs.map tgD)), .val (lD (rwD kvs)), e5, e6, e7, e8]) ?_ ?_ _ _ ⟨[], allk, [[]], _, _, _, _, _, rfl, rfl, fun t ht => by rw [List.mem_singleton.mp ht]; exact ⟨fun p h => (List.not_mem_nil h).elim, List.Pairwise.nil, Nat.le_refl _, fun p h => (List.not_mem_nil h).elim⟩, Nat.le_refl _, p2, p5, p6, p7, p8, rfl⟩
    · clear p2 p5 p6 p7 p8
      rintro x xs ρ ⟨dk, rk, fs, e2, e5, e6, e7, e8, g1, gx, g2, g3, p2, p5, p6, p7, p8, rfl⟩
      cases rk with
      | nil => cases gx
      | cons k rk =>
        cases gx
        obtain ⟨vs, v1, v2, v3⟩ := hkq k (by rw [g1]; simp)
        have hdk : ∀ x ∈ dk, ltT x k = true := fun x hx => by
          rw [g1] at hup
          exact (List.pairwise_append.mp hup).2.2 x hx k (List.mem_cons_self ..)
        have hs2 : ((dk.map (lenW kvs)).sum) + vs.length ≤ 12 := by
          rw [g1, List.map_append, List.sum_append_nat, List.map_cons, List.sum_cons, v2] at hsum
          omega
        have hfs : fs.length * 2 ^ vs.length ≤ 4096 := by
          refine Nat.le_trans (Nat.mul_le_mul_right _ g3) ?_
          rw [← Nat.pow_add]
          exact Nat.le_trans (two_pow_le hs2) (by decide)
        have hw : 1 + (srtT vs).length ≤ 2 ^ vs.length := by
          have := srtT_len vs
          have := Nat.lt_two_pow_self (n := vs.length)
          omega
        have hix : ∀ Q : PyData → Prop, W1 (gIx2 (lD (rwD kvs)) (.str k)) Q = Q (.list (vs.map .str)) := fun Q => by
          have : gIx2 (lD (rwD kvs)) (.str k) = some (.list (vs.map .str)) := by
            show (none : Option PyData).or (lkD ((rwD kvs).map fun p => (.str p.1, .list p.2)) (.inr k)) = _
            rw [lk_map PyData.list, lk, v1]
            rfl
          rw [this]
          rfl
        have hvl : vs.length < 64 := by omega
        have hdl : dk.length ≤ 12 := by
          have := congrArg List.length g1
          rw [List.length_append] at this
          omega
        simp (config := {maxSteps := 1000000}) only [p2.all, p5.all, p6.all, p7.all, p8.all, mb__law_all_targets_4, hix, hvl, Fj.wp0, Fj.wp1, Fj.wp2, Fj.wp3, Fj.wp4, Fj.wp5, Fj.wp6, Fj.wp7, Fj.wp8, Fj.wp9, Fj.wp10, Fj.wp11, Fj.wp12, Fj.wp13, Fj.wp14, Fj.wp15, Fj.wp16, Fj.wp17, Fj.wp18, Fj.wp19, Fj.wp20, Fj.wp21, Fj.wpz, Fj.wq0, Fj.wq1, Fj.wq2, Fj.tyN, Int.reduceEq, Int.reduceLT, Int.reduceLE, Int.reduceAdd, Int.reduceSub, Int.reduceMul, Int.reduceNeg, Int.reducePow, Int.reduceToNat, Int.reduceMod, Int.reduceDiv, Int.reduceNe, Nat.reduceEqDiff, Nat.reduceMul, borOk, dkAll, dkKept, nlD, nlAll, id, frz, freeE, outsE, pick, merE, wipeE, Nat.reduceAdd, Nat.reduceSub, Nat.reduceLeDiff, Nat.reduceLT, reduceCtorEq, if_true, if_false, eq_self, forall_const, Bool.false_and, frzT, String.reduceEq]
        refine w_forL (fun xs ρ => ∃ done rest es e6 e7 e8, srtT vs = done ++ rest ∧ xs = rest.map .str ∧ es.length = fs.length * (1 + done.length) ∧ (∀ t ∈ es, Ft (dk ++ [k]) t) ∧ Pl e6 ∧ Pl e7 ∧ Pl e8 ∧ ρ = [.val (.list [c.D]), .val c.D, .val (.str k), .val (.list (fs.map tgD)), .val (lD (rwD kvs)), .own true (.lst (es.map tgD)), e6, e7, e8]) ?_ ?_ _ _ ⟨[], srtT vs, fs, _, _, _, rfl, rfl, by simp, fun t ht => (g2 t ht).more, p6, p7, p8, rfl⟩
        · clear p2 p5 p6 p7 p8
          rintro x xs ρ ⟨done, rest, es, e6, e7, e8, f1, fx, f2, f3, p6, p7, p8, rfl⟩
          cases rest with
          | nil => cases fx
          | cons v rest =>
            cases fx
            have hv : v ∈ vs := srtT_mem.mp (by rw [f1]; simp)
            have hlen : es.length + fs.length ≤ 4096 := by
              have h3 : done.length + 1 + 1 ≤ 2 ^ vs.length := by
                have := congrArg List.length f1
                rw [List.length_append, List.length_cons] at this
                omega
              have h4 := Nat.mul_le_mul_left fs.length h3
              have e1 : fs.length * (done.length + 1 + 1) = fs.length * (1 + done.length) + fs.length := by
                rw [Nat.mul_add, Nat.mul_one, Nat.add_comm 1]
              omega
            simp (config := {maxSteps := 1000000}) only [p6.all, p7.all, p8.all, lc__law_all_targets_3, Fj.wp0, Fj.wp1, Fj.wp2, Fj.wp3, Fj.wp4, Fj.wp5, Fj.wp6, Fj.wp7, Fj.wp8, Fj.wp9, Fj.wp10, Fj.wp11, Fj.wp12, Fj.wp13, Fj.wp14, Fj.wp15, Fj.wp16, Fj.wp17, Fj.wp18, Fj.wp19, Fj.wp20, Fj.wp21, Fj.wpz, Fj.wq0, Fj.wq1, Fj.wq2, Fj.tyN, Int.reduceEq, Int.reduceLT, Int.reduceLE, Int.reduceAdd, Int.reduceSub, Int.reduceMul, Int.reduceNeg, Int.reducePow, Int.reduceToNat, Int.reduceMod, Int.reduceDiv, Int.reduceNe, Nat.reduceEqDiff, Nat.reduceMul, borOk, dkAll, dkKept, nlD, nlAll, id, frz, freeE, outsE, pick, merE, wipeE, Nat.reduceAdd, Nat.reduceSub, Nat.reduceLeDiff, Nat.reduceLT, reduceCtorEq, if_true, if_false, eq_self, forall_const, Bool.false_and, frzT, String.reduceEq]
            refine w_lcMap tgD (fun t => tgD (t ++ [(k, v)])) (fun t ht => ?_) (by omega) ?_
            · have hl := (g2 t ht).len
              simp (config := {maxSteps := 1000000}) only [p6.all, p7.all, p8.all, List.length_map, List.map_append, Fj.wp0, Fj.wp1, Fj.wp2, Fj.wp3, Fj.wp4, Fj.wp5, Fj.wp6, Fj.wp7, Fj.wp8, Fj.wp9, Fj.wp10, Fj.wp11, Fj.wp12, Fj.wp13, Fj.wp14, Fj.wp15, Fj.wp16, Fj.wp17, Fj.wp18, Fj.wp19, Fj.wp20, Fj.wp21, Fj.wpz, Fj.wq0, Fj.wq1, Fj.wq2, Fj.tyN, Int.reduceEq, Int.reduceLT, Int.reduceLE, Int.reduceAdd, Int.reduceSub, Int.reduceMul, Int.reduceNeg, Int.reducePow, Int.reduceToNat, Int.reduceMod, Int.reduceDiv, Int.reduceNe, Nat.reduceEqDiff, Nat.reduceMul, borOk, dkAll, dkKept, nlD, nlAll, id, frz, freeE, outsE, pick, merE, wipeE, Nat.reduceAdd, Nat.reduceSub, Nat.reduceLeDiff, Nat.reduceLT, reduceCtorEq, if_true, if_false, eq_self, forall_const, Bool.false_and, frzT, String.reduceEq]
              exact ⟨by omega, by unfold tgD; rw [List.map_append]; rfl⟩
            · simp (config := {maxSteps := 1000000}) only [p6.all, p7.all, p8.all, List.length_map, Fj.wp0, Fj.wp1, Fj.wp2, Fj.wp3, Fj.wp4, Fj.wp5, Fj.wp6, Fj.wp7, Fj.wp8, Fj.wp9, Fj.wp10, Fj.wp11, Fj.wp12, Fj.wp13, Fj.wp14, Fj.wp15, Fj.wp16, Fj.wp17, Fj.wp18, Fj.wp19, Fj.wp20, Fj.wp21, Fj.wpz, Fj.wq0, Fj.wq1, Fj.wq2, Fj.tyN, Int.reduceEq, Int.reduceLT, Int.reduceLE, Int.reduceAdd, Int.reduceSub, Int.reduceMul, Int.reduceNeg, Int.reducePow, Int.reduceToNat, Int.reduceMod, Int.reduceDiv, Int.reduceNe, Nat.reduceEqDiff, Nat.reduceMul, borOk, dkAll, dkKept, nlD, nlAll, id, frz, freeE, outsE, pick, merE, wipeE, Nat.reduceAdd, Nat.reduceSub, Nat.reduceLeDiff, Nat.reduceLT, reduceCtorEq, if_true, if_false, eq_self, forall_const, Bool.false_and, frzT, String.reduceEq]
              refine ⟨by omega, done ++ [v], rest, es ++ fs.map (fun t => t ++ [(k, v)]), .val (.str v), e7, .no, by rw [f1, List.append_assoc]; rfl, rfl, ?_, fun t ht => ?_, .val, p7, .no, ?_⟩
              · rw [List.length_append, List.length_map, f2, List.length_append, List.length_singleton, Nat.mul_add, Nat.mul_one, Nat.mul_add, Nat.mul_add, Nat.mul_one]
                omega
              · rcases List.mem_append.mp ht with z | z
                · exact f3 t z
                · obtain ⟨u, hu, rfl⟩ := List.mem_map.mp z
                  exact (g2 u hu).add hdk (v3 v hv)
              · rw [List.map_append, List.map_map]
                rfl
        · rintro ρ ⟨done, rest, es, e6, e7, e8, f1, fx, f2, f3, p6, p7, p8, rfl⟩
          have : rest = [] := List.map_eq_nil_iff.mp fx.symm
          subst this
          rw [List.append_nil] at f1
          simp (config := {maxSteps := 1000000}) only [p6.all, p7.all, p8.all, Fj.wp0, Fj.wp1, Fj.wp2, Fj.wp3, Fj.wp4, Fj.wp5, Fj.wp6, Fj.wp7, Fj.wp8, Fj.wp9, Fj.wp10, Fj.wp11, Fj.wp12, Fj.wp13, Fj.wp14, Fj.wp15, Fj.wp16, Fj.wp17, Fj.wp18, Fj.wp19, Fj.wp20, Fj.wp21, Fj.wpz, Fj.wq0, Fj.wq1, Fj.wq2, Fj.tyN, Int.reduceEq, Int.reduceLT, Int.reduceLE, Int.reduceAdd, Int.reduceSub, Int.reduceMul, Int.reduceNeg, Int.reducePow, Int.reduceToNat, Int.reduceMod, Int.reduceDiv, Int.reduceNe, Nat.reduceEqDiff, Nat.reduceMul, borOk, dkAll, dkKept, nlD, nlAll, id, frz, freeE, outsE, pick, merE, wipeE, Nat.reduceAdd, Nat.reduceSub, Nat.reduceLeDiff, Nat.reduceLT, reduceCtorEq, if_true, if_false, eq_self, forall_const, Bool.false_and, frzT, String.reduceEq]
          refine ⟨dk ++ [k], rk, es, _, _, _, _, _, by rw [g1, List.append_assoc]; rfl, rfl, f3, ?_, .val, .val, p6, p7, p8, rfl⟩
          rw [List.map_append, List.sum_append_nat, List.map_cons, List.map_nil, List.sum_cons, List.sum_nil, Nat.add_zero, v2, Nat.pow_add, f2]
          exact Nat.mul_le_mul g3 (by rw [← f1]; exact hw)
    · rintro ρ ⟨dk, rk, fs, e2, e5, e6, e7, e8, g1, gx, g2, g3, p2, p5, p6, p7, p8, rfl⟩
      have : rk = [] := List.map_eq_nil_iff.mp gx.symm
      subst this
      rw [List.append_nil] at g1
      simp (config := {maxSteps := 1000000}) only [p2.all, p5.all, p6.all, p7.all, p8.all, Fj.wp0, Fj.wp1, Fj.wp2, Fj.wp3, Fj.wp4, Fj.wp5, Fj.wp6, Fj.wp7, Fj.wp8, Fj.wp9, Fj.wp10, Fj.wp11, Fj.wp12, Fj.wp13, Fj.wp14, Fj.wp15, Fj.wp16, Fj.wp17, Fj.wp18, Fj.wp19, Fj.wp20, Fj.wp21, Fj.wpz, Fj.wq0, Fj.wq1, Fj.wq2, Fj.tyN, Int.reduceEq, Int.reduceLT, Int.reduceLE, Int.reduceAdd, Int.reduceSub, Int.reduceMul, Int.reduceNeg, Int.reducePow, Int.reduceToNat, Int.reduceMod, Int.reduceDiv, Int.reduceNe, Nat.reduceEqDiff, Nat.reduceMul, borOk, dkAll, dkKept, nlD, nlAll, id, frz, freeE, outsE, pick, merE, wipeE, Nat.reduceAdd, Nat.reduceSub, Nat.reduceLeDiff, Nat.reduceLT, reduceCtorEq, if_true, if_false, eq_self, forall_const, Bool.false_and, frzT, String.reduceEq]
      refine ⟨fs, rfl, fun t ht => ?_, ?_⟩
      · have h := g2 t ht
        have := h.len
        rw [← g1] at this
        exact ⟨⟨h.ok, h.up, by omega⟩, by omega⟩
      · rw [← g1] at g3
        exact Nat.le_trans g3 (Nat.le_trans (two_pow_le hsum) (by decide))
end L_k16

set_option maxRecDepth 100000
set_option maxHeartbeats 0
set_option linter.all false
set_option linter.unusedSimpArgs false
namespace L_k16
open PySem PySem.Spec PyProof.Rows L2 Fj
/-! what is drawn -/
theorem Dk.mono {c c' : Nat} {f : MF} {args : List Ent} {R : Ent → Prop} (h : Dk c f args R) (hc : c ≤ c') : Dk c' f args R := fun n l m t hd hn => (h n l m t hd (by omega)).mono fun e o ⟨h1, l', m', t', o', h2, h3⟩ => ⟨h1, l', m', t', o', h2, dk_mono h3 (by omega)⟩
theorem mixed_ok (ds : List PyData) (hl : ds.length ≤ 10000) : Dk 10000 mf__law_mixed [.val (.list ds)] fun e => ∃ ds', e = .own true (.lst ds') ∧ ds'.length = ds.length ∧ ∀ d ∈ ds', d ∈ ds := by
  intro n l m t hd hn
  simp (config := {maxSteps := 1000000}) only [mf__law_mixed, mb__law_mixed, lc__law_mixed_1, Int.toNat_natCast, Fj.wp0, Fj.wp1, Fj.wp2, Fj.wp3, Fj.wp4, Fj.wp5, Fj.wp6, Fj.wp7, Fj.wp8, Fj.wp9, Fj.wp10, Fj.wp11, Fj.wp12, Fj.wp13, Fj.wp14, Fj.wp15, Fj.wp16, Fj.wp17, Fj.wp18, Fj.wp19, Fj.wp20, Fj.wp21, Fj.wpz, Fj.wq0, Fj.wq1, Fj.wq2, Fj.tyN, Int.reduceEq, Int.reduceLT, Int.reduceLE, Int.reduceAdd, Int.reduceSub, Int.reduceMul, Int.reduceNeg, Int.reducePow, Int.reduceToNat, Int.reduceMod, Int.reduceDiv, Int.reduceNe, Nat.reduceEqDiff, Nat.reduceMul, borOk, dkAll, dkKept, nlD, nlAll, id, frz, freeE, outsE, pick, merE, wipeE, Nat.reduceAdd, Nat.reduceSub, Nat.reduceLeDiff, Nat.reduceLT, reduceCtorEq, if_true, if_false, eq_self, forall_const, Bool.false_and, frzT, String.reduceEq]
  refine ⟨by omega, ?_⟩
  refine w_lcL (fun xs acc ρ => ∃ done rest nss l' m' t' n', List.range ds.length = done ++ rest ∧ xs = rest.map (fun i : Nat => PyData.int (0 + (i : Int))) ∧ acc = nss.map tupI ∧ nss.length = done.length ∧ (∀ q ∈ nss, ∃ (r : Int) (i : Nat), q = [r, (i : Int)] ∧ i < ds.length) ∧ n' + rest.length = n + ds.length ∧ DkOk n' l' m' t' ∧ ρ = [.own false (.deck 1 l' m' t'), .val (.list ds), .no, .no, .no]) ?_ ?_ _ _ _ ⟨[], List.range ds.length, [], l, m, t, n, rfl, rfl, rfl, rfl, fun q hq => (List.not_mem_nil hq).elim, by rw [List.length_range], hd, rfl⟩
  · rintro x xs acc ρ ⟨done, rest, nss, l', m', t', n', h1, hx, rfl, h2, h3, h4, h5, rfl⟩
    cases rest with
    | nil => cases hx
    | cons i rest =>
      cases hx
      rw [List.length_cons] at h4
      have hi : i < ds.length := List.mem_range.mp (by rw [h1]; simp)
      have hlen := congrArg List.length h1
      rw [List.length_range, List.length_append, List.length_cons] at hlen
      simp (config := {maxSteps := 1000000}) only [Fj.wp0, Fj.wp1, Fj.wp2, Fj.wp3, Fj.wp4, Fj.wp5, Fj.wp6, Fj.wp7, Fj.wp8, Fj.wp9, Fj.wp10, Fj.wp11, Fj.wp12, Fj.wp13, Fj.wp14, Fj.wp15, Fj.wp16, Fj.wp17, Fj.wp18, Fj.wp19, Fj.wp20, Fj.wp21, Fj.wpz, Fj.wq0, Fj.wq1, Fj.wq2, Fj.tyN, Int.reduceEq, Int.reduceLT, Int.reduceLE, Int.reduceAdd, Int.reduceSub, Int.reduceMul, Int.reduceNeg, Int.reducePow, Int.reduceToNat, Int.reduceMod, Int.reduceDiv, Int.reduceNe, Nat.reduceEqDiff, Nat.reduceMul, borOk, dkAll, dkKept, nlD, nlAll, id, frz, freeE, outsE, pick, merE, wipeE, Nat.reduceAdd, Nat.reduceSub, Nat.reduceLeDiff, Nat.reduceLT, reduceCtorEq, if_true, if_false, eq_self, forall_const, Bool.false_and, frzT, String.reduceEq]
      refine (draw_ok n' l' m' t' 1000 h5 (by omega) (by decide) (by decide)).mono ?_
      rintro _ _ ⟨r, l'', m'', t'', o, rfl, r0, r1, rfl, h6⟩
      simp (config := {maxSteps := 1000000}) only [List.length_map, Fj.wp0, Fj.wp1, Fj.wp2, Fj.wp3, Fj.wp4, Fj.wp5, Fj.wp6, Fj.wp7, Fj.wp8, Fj.wp9, Fj.wp10, Fj.wp11, Fj.wp12, Fj.wp13, Fj.wp14, Fj.wp15, Fj.wp16, Fj.wp17, Fj.wp18, Fj.wp19, Fj.wp20, Fj.wp21, Fj.wpz, Fj.wq0, Fj.wq1, Fj.wq2, Fj.tyN, Int.reduceEq, Int.reduceLT, Int.reduceLE, Int.reduceAdd, Int.reduceSub, Int.reduceMul, Int.reduceNeg, Int.reducePow, Int.reduceToNat, Int.reduceMod, Int.reduceDiv, Int.reduceNe, Nat.reduceEqDiff, Nat.reduceMul, borOk, dkAll, dkKept, nlD, nlAll, id, frz, freeE, outsE, pick, merE, wipeE, Nat.reduceAdd, Nat.reduceSub, Nat.reduceLeDiff, Nat.reduceLT, reduceCtorEq, if_true, if_false, eq_self, forall_const, Bool.false_and, frzT, String.reduceEq]
      exact ⟨by omega, done ++ [i], rest, nss ++ [[r, (i : Int)]], l'', m'', t'', n' + 1, by rw [h1, List.append_assoc]; rfl, rfl, by rw [List.map_append]; simp [tupI], by rw [List.length_append, List.length_append, h2]; rfl, fun q hq => (List.mem_append.mp hq).elim (h3 q) fun z => ⟨r, i, List.mem_singleton.mp z, hi⟩, by omega, h6, rfl⟩
  · rintro acc ρ ⟨done, rest, nss, l', m', t', n', h1, hx, rfl, h2, h3, h4, h5, rfl⟩
    have : rest = [] := List.map_eq_nil_iff.mp hx.symm
    subst this
    rw [List.append_nil] at h1
    have hg := fun R => g_sbR (nss := nss) (fun q hq => by obtain ⟨r, i, rfl, _⟩ := h3 q hq; rfl) (R := R)
    simp (config := {maxSteps := 1000000}) only [hg, lc__law_mixed_2, Fj.wp0, Fj.wp1, Fj.wp2, Fj.wp3, Fj.wp4, Fj.wp5, Fj.wp6, Fj.wp7, Fj.wp8, Fj.wp9, Fj.wp10, Fj.wp11, Fj.wp12, Fj.wp13, Fj.wp14, Fj.wp15, Fj.wp16, Fj.wp17, Fj.wp18, Fj.wp19, Fj.wp20, Fj.wp21, Fj.wpz, Fj.wq0, Fj.wq1, Fj.wq2, Fj.tyN, Int.reduceEq, Int.reduceLT, Int.reduceLE, Int.reduceAdd, Int.reduceSub, Int.reduceMul, Int.reduceNeg, Int.reducePow, Int.reduceToNat, Int.reduceMod, Int.reduceDiv, Int.reduceNe, Nat.reduceEqDiff, Nat.reduceMul, borOk, dkAll, dkKept, nlD, nlAll, id, frz, freeE, outsE, pick, merE, wipeE, Nat.reduceAdd, Nat.reduceSub, Nat.reduceLeDiff, Nat.reduceLT, reduceCtorEq, if_true, if_false, eq_self, forall_const, Bool.false_and, frzT, String.reduceEq]
    have hp := isort_perm HT.lexLt nss
    refine w_lcL (fun xs acc ρ => ∃ done rest, isort HT.lexLt nss = done ++ rest ∧ xs = rest.map tupI ∧ acc.length = done.length ∧ (∀ d ∈ acc, d ∈ ds) ∧ ρ = [.own false (.deck 1 l' m' t'), .val (.list ds), .val (.list ((isort HT.lexLt nss).map tupI)), .no, .no]) ?_ ?_ _ _ _ ⟨[], isort HT.lexLt nss, rfl, rfl, rfl, fun d hd => (List.not_mem_nil hd).elim, rfl⟩
    · rintro x xs acc ρ ⟨done2, rest2, g1, gx, g2, g3, rfl⟩
      cases rest2 with
      | nil => cases gx
      | cons q rest2 =>
        cases gx
        obtain ⟨r, i, rfl, hi⟩ := h3 q (hp.mem_iff.mp (by rw [g1]; simp))
        obtain ⟨d, e, hm, _⟩ := atI_mem (ds := ds) (r := (i : Int)) (by omega) (by omega)
        have hlen := congrArg List.length g1
        rw [hp.length_eq, List.length_append, List.length_cons, h2, ← h1, List.length_range] at hlen
        simp (config := {maxSteps := 1000000}) only [e, Fj.wp0, Fj.wp1, Fj.wp2, Fj.wp3, Fj.wp4, Fj.wp5, Fj.wp6, Fj.wp7, Fj.wp8, Fj.wp9, Fj.wp10, Fj.wp11, Fj.wp12, Fj.wp13, Fj.wp14, Fj.wp15, Fj.wp16, Fj.wp17, Fj.wp18, Fj.wp19, Fj.wp20, Fj.wp21, Fj.wpz, Fj.wq0, Fj.wq1, Fj.wq2, Fj.tyN, Int.reduceEq, Int.reduceLT, Int.reduceLE, Int.reduceAdd, Int.reduceSub, Int.reduceMul, Int.reduceNeg, Int.reducePow, Int.reduceToNat, Int.reduceMod, Int.reduceDiv, Int.reduceNe, Nat.reduceEqDiff, Nat.reduceMul, borOk, dkAll, dkKept, nlD, nlAll, id, frz, freeE, outsE, pick, merE, wipeE, Nat.reduceAdd, Nat.reduceSub, Nat.reduceLeDiff, Nat.reduceLT, reduceCtorEq, if_true, if_false, eq_self, forall_const, Bool.false_and, frzT, String.reduceEq]
        exact ⟨by omega, done2 ++ [[r, (i : Int)]], rest2, by rw [g1, List.append_assoc]; rfl, rfl, by rw [List.length_append, List.length_append, g2]; rfl, fun x hx => (List.mem_append.mp hx).elim (g3 x) fun z => by rw [List.mem_singleton.mp z]; exact hm⟩
    · rintro acc ρ ⟨done2, rest2, g1, gx, g2, g3, rfl⟩
      have : rest2 = [] := List.map_eq_nil_iff.mp gx.symm
      subst this
      rw [List.append_nil] at g1
      simp (config := {maxSteps := 1000000}) only [Fj.wp0, Fj.wp1, Fj.wp2, Fj.wp3, Fj.wp4, Fj.wp5, Fj.wp6, Fj.wp7, Fj.wp8, Fj.wp9, Fj.wp10, Fj.wp11, Fj.wp12, Fj.wp13, Fj.wp14, Fj.wp15, Fj.wp16, Fj.wp17, Fj.wp18, Fj.wp19, Fj.wp20, Fj.wp21, Fj.wpz, Fj.wq0, Fj.wq1, Fj.wq2, Fj.tyN, Int.reduceEq, Int.reduceLT, Int.reduceLE, Int.reduceAdd, Int.reduceSub, Int.reduceMul, Int.reduceNeg, Int.reducePow, Int.reduceToNat, Int.reduceMod, Int.reduceDiv, Int.reduceNe, Nat.reduceEqDiff, Nat.reduceMul, borOk, dkAll, dkKept, nlD, nlAll, id, frz, freeE, outsE, pick, merE, wipeE, Nat.reduceAdd, Nat.reduceSub, Nat.reduceLeDiff, Nat.reduceLT, reduceCtorEq, if_true, if_false, eq_self, forall_const, Bool.false_and, frzT, String.reduceEq]
      refine ⟨⟨acc, rfl, ?_, g3⟩, l', m', t', _, rfl, dk_mono h5 (by simp at h4; omega)⟩
      rw [g2, ← g1, hp.length_eq, h2, ← h1, List.length_range]
theorem pickS_ok (z : Str) (h1 : 1 ≤ z.length) (h2 : z.length ≤ 1000) : Dk 1 mf__law_pick [.val (.str z)] fun e => ∃ k, k ∈ z.cps.toList ∧ e = .val (.str ⟨#[k]⟩) := by
  intro n l m t hd hn
  have h3 : z.length ≤ 100000 := by omega
  simp (config := {maxSteps := 1000000}) only [mf__law_pick, mb__law_pick, g_lenS, h3, Fj.wp0, Fj.wp1, Fj.wp2, Fj.wp3, Fj.wp4, Fj.wp5, Fj.wp6, Fj.wp7, Fj.wp8, Fj.wp9, Fj.wp10, Fj.wp11, Fj.wp12, Fj.wp13, Fj.wp14, Fj.wp15, Fj.wp16, Fj.wp17, Fj.wp18, Fj.wp19, Fj.wp20, Fj.wp21, Fj.wpz, Fj.wq0, Fj.wq1, Fj.wq2, Fj.tyN, Int.reduceEq, Int.reduceLT, Int.reduceLE, Int.reduceAdd, Int.reduceSub, Int.reduceMul, Int.reduceNeg, Int.reducePow, Int.reduceToNat, Int.reduceMod, Int.reduceDiv, Int.reduceNe, Nat.reduceEqDiff, Nat.reduceMul, borOk, dkAll, dkKept, nlD, nlAll, id, frz, freeE, outsE, pick, merE, wipeE, Nat.reduceAdd, Nat.reduceSub, Nat.reduceLeDiff, Nat.reduceLT, reduceCtorEq, if_true, if_false, eq_self, forall_const, Bool.false_and, frzT, String.reduceEq]
  refine (draw_ok n l m t z.length hd (by omega) (by omega) (by omega)).mono ?_
  rintro _ _ ⟨r, l', m', t', o, rfl, r0, r1, rfl, h5⟩
  have hz : z.length = z.cps.toList.length := by rw [Array.length_toList]; rfl
  obtain ⟨k, e, hk⟩ : ∃ k, L2.atI z.cps.toList r = some k ∧ k ∈ z.cps.toList := by
    have hr : r.toNat < z.cps.toList.length := by omega
    refine ⟨z.cps.toList[r.toNat], ?_, List.getElem_mem ..⟩
    have := L2.atI_nat (xs := z.cps.toList) (j := r.toNat) (List.getElem?_eq_getElem hr)
    rwa [show ((r.toNat : Nat) : Int) = r by omega] at this
  simp (config := {maxSteps := 1000000}) only [g_ixS, h3, e, Fj.wp0, Fj.wp1, Fj.wp2, Fj.wp3, Fj.wp4, Fj.wp5, Fj.wp6, Fj.wp7, Fj.wp8, Fj.wp9, Fj.wp10, Fj.wp11, Fj.wp12, Fj.wp13, Fj.wp14, Fj.wp15, Fj.wp16, Fj.wp17, Fj.wp18, Fj.wp19, Fj.wp20, Fj.wp21, Fj.wpz, Fj.wq0, Fj.wq1, Fj.wq2, Fj.tyN, Int.reduceEq, Int.reduceLT, Int.reduceLE, Int.reduceAdd, Int.reduceSub, Int.reduceMul, Int.reduceNeg, Int.reducePow, Int.reduceToNat, Int.reduceMod, Int.reduceDiv, Int.reduceNe, Nat.reduceEqDiff, Nat.reduceMul, borOk, dkAll, dkKept, nlD, nlAll, id, frz, freeE, outsE, pick, merE, wipeE, Nat.reduceAdd, Nat.reduceSub, Nat.reduceLeDiff, Nat.reduceLT, reduceCtorEq, if_true, if_false, eq_self, forall_const, Bool.false_and, frzT, String.reduceEq]
  exact ⟨⟨k, hk, rfl⟩, l', m', t', _, rfl, h5⟩
theorem joinL_nil : ∀ ps : List (List Nat), TL.joinL [] ps = ps.flatten
  | [] => rfl
  | [p] => by simp [TL.joinL]
  | p :: q :: r => by
    have := joinL_nil (q :: r)
    show p ++ ([] ++ TL.joinL [] (q :: r)) = _
    rw [this]
    rfl
theorem join_cps (xs : List Str) : (Txt.join "" xs).cps.toList = (xs.map fun x => x.cps.toList).flatten := by
  rw [TL.join_eq]
  have := TL.tl_join "" xs
  rw [show TL.tl ("" : Str) = [] from rfl, joinL_nil] at this
  exact this
theorem len_tl (x : Str) : x.length = x.cps.toList.length := by rw [Array.length_toList]; rfl
theorem word_ok : Dk 20 mf__law_any_word [] fun e => ∃ x, okW x ∧ e = .val (.str x) := by
  intro n l m t hd hn
  simp (config := {maxSteps := 1000000}) only [mf__law_any_word, mb__law_any_word, mb__law_any_word_1, Fj.wp0, Fj.wp1, Fj.wp2, Fj.wp3, Fj.wp4, Fj.wp5, Fj.wp6, Fj.wp7, Fj.wp8, Fj.wp9, Fj.wp10, Fj.wp11, Fj.wp12, Fj.wp13, Fj.wp14, Fj.wp15, Fj.wp16, Fj.wp17, Fj.wp18, Fj.wp19, Fj.wp20, Fj.wp21, Fj.wpz, Fj.wq0, Fj.wq1, Fj.wq2, Fj.tyN, Int.reduceEq, Int.reduceLT, Int.reduceLE, Int.reduceAdd, Int.reduceSub, Int.reduceMul, Int.reduceNeg, Int.reducePow, Int.reduceToNat, Int.reduceMod, Int.reduceDiv, Int.reduceNe, Nat.reduceEqDiff, Nat.reduceMul, borOk, dkAll, dkKept, nlD, nlAll, id, frz, freeE, outsE, pick, merE, wipeE, Nat.reduceAdd, Nat.reduceSub, Nat.reduceLeDiff, Nat.reduceLT, reduceCtorEq, if_true, if_false, eq_self, forall_const, Bool.false_and, frzT, String.reduceEq]
  refine (draw_ok n l m t 4 hd (by omega) (by decide) (by decide)).mono ?_
  rintro _ _ ⟨r, l1, m1, t1, o, rfl, r0, r1, rfl, h1⟩
  by_cases hr : r > 0
  · simp (config := {maxSteps := 1000000}) only [hr, Fj.wp0, Fj.wp1, Fj.wp2, Fj.wp3, Fj.wp4, Fj.wp5, Fj.wp6, Fj.wp7, Fj.wp8, Fj.wp9, Fj.wp10, Fj.wp11, Fj.wp12, Fj.wp13, Fj.wp14, Fj.wp15, Fj.wp16, Fj.wp17, Fj.wp18, Fj.wp19, Fj.wp20, Fj.wp21, Fj.wpz, Fj.wq0, Fj.wq1, Fj.wq2, Fj.tyN, Int.reduceEq, Int.reduceLT, Int.reduceLE, Int.reduceAdd, Int.reduceSub, Int.reduceMul, Int.reduceNeg, Int.reducePow, Int.reduceToNat, Int.reduceMod, Int.reduceDiv, Int.reduceNe, Nat.reduceEqDiff, Nat.reduceMul, borOk, dkAll, dkKept, nlD, nlAll, id, frz, freeE, outsE, pick, merE, wipeE, Nat.reduceAdd, Nat.reduceSub, Nat.reduceLeDiff, Nat.reduceLT, reduceCtorEq, if_true, if_false, eq_self, forall_const, Bool.false_and, frzT, String.reduceEq]
    refine (pick_ok (n + 1) l1 m1 t1 _ h1 (by omega) (by simp) (by simp)).mono ?_
    rintro _ _ ⟨d, l2, m2, t2, o, hm, rfl, rfl, h2⟩
    simp (config := {maxSteps := 1000000}) only [Fj.wp0, Fj.wp1, Fj.wp2, Fj.wp3, Fj.wp4, Fj.wp5, Fj.wp6, Fj.wp7, Fj.wp8, Fj.wp9, Fj.wp10, Fj.wp11, Fj.wp12, Fj.wp13, Fj.wp14, Fj.wp15, Fj.wp16, Fj.wp17, Fj.wp18, Fj.wp19, Fj.wp20, Fj.wp21, Fj.wpz, Fj.wq0, Fj.wq1, Fj.wq2, Fj.tyN, Int.reduceEq, Int.reduceLT, Int.reduceLE, Int.reduceAdd, Int.reduceSub, Int.reduceMul, Int.reduceNeg, Int.reducePow, Int.reduceToNat, Int.reduceMod, Int.reduceDiv, Int.reduceNe, Nat.reduceEqDiff, Nat.reduceMul, borOk, dkAll, dkKept, nlD, nlAll, id, frz, freeE, outsE, pick, merE, wipeE, Nat.reduceAdd, Nat.reduceSub, Nat.reduceLeDiff, Nat.reduceLT, reduceCtorEq, if_true, if_false, eq_self, forall_const, Bool.false_and, frzT, String.reduceEq]
    refine ⟨?_, l2, m2, t2, _, rfl, dk_mono h2 (by omega)⟩
    simp only [List.mem_cons, List.not_mem_nil, or_false] at hm
    rcases hm with rfl | rfl | rfl | rfl | rfl | rfl | rfl | rfl | rfl | rfl | rfl | rfl <;> exact ⟨_, by decide +kernel, rfl⟩
  · simp (config := {maxSteps := 1000000}) only [hr, Fj.wp0, Fj.wp1, Fj.wp2, Fj.wp3, Fj.wp4, Fj.wp5, Fj.wp6, Fj.wp7, Fj.wp8, Fj.wp9, Fj.wp10, Fj.wp11, Fj.wp12, Fj.wp13, Fj.wp14, Fj.wp15, Fj.wp16, Fj.wp17, Fj.wp18, Fj.wp19, Fj.wp20, Fj.wp21, Fj.wpz, Fj.wq0, Fj.wq1, Fj.wq2, Fj.tyN, Int.reduceEq, Int.reduceLT, Int.reduceLE, Int.reduceAdd, Int.reduceSub, Int.reduceMul, Int.reduceNeg, Int.reducePow, Int.reduceToNat, Int.reduceMod, Int.reduceDiv, Int.reduceNe, Nat.reduceEqDiff, Nat.reduceMul, borOk, dkAll, dkKept, nlD, nlAll, id, frz, freeE, outsE, pick, merE, wipeE, Nat.reduceAdd, Nat.reduceSub, Nat.reduceLeDiff, Nat.reduceLT, reduceCtorEq, if_true, if_false, eq_self, forall_const, Bool.false_and, frzT, String.reduceEq]
    refine (pick_ok (n + 1) l1 m1 t1 _ h1 (by omega) (by simp) (by simp)).mono ?_
    rintro _ _ ⟨d, l2, m2, t2, o, hm, rfl, rfl, h2⟩
    obtain ⟨k, rfl, k1, k2⟩ : ∃ k : Nat, d = .int (k : Int) ∧ 1 ≤ k ∧ k ≤ 10 := by
      simp only [List.mem_cons, List.not_mem_nil, or_false] at hm
      rcases hm with rfl | rfl | rfl | rfl | rfl | rfl
      · exact ⟨1, rfl, by decide, by decide⟩
      · exact ⟨2, rfl, by decide, by decide⟩
      · exact ⟨3, rfl, by decide, by decide⟩
      · exact ⟨5, rfl, by decide, by decide⟩
      · exact ⟨9, rfl, by decide, by decide⟩
      · exact ⟨10, rfl, by decide, by decide⟩
    simp (config := {maxSteps := 1000000}) only [lc__law_any_word_2, Int.toNat_natCast, rngD_map, Fj.wp0, Fj.wp1, Fj.wp2, Fj.wp3, Fj.wp4, Fj.wp5, Fj.wp6, Fj.wp7, Fj.wp8, Fj.wp9, Fj.wp10, Fj.wp11, Fj.wp12, Fj.wp13, Fj.wp14, Fj.wp15, Fj.wp16, Fj.wp17, Fj.wp18, Fj.wp19, Fj.wp20, Fj.wp21, Fj.wpz, Fj.wq0, Fj.wq1, Fj.wq2, Fj.tyN, Int.reduceEq, Int.reduceLT, Int.reduceLE, Int.reduceAdd, Int.reduceSub, Int.reduceMul, Int.reduceNeg, Int.reducePow, Int.reduceToNat, Int.reduceMod, Int.reduceDiv, Int.reduceNe, Nat.reduceEqDiff, Nat.reduceMul, borOk, dkAll, dkKept, nlD, nlAll, id, frz, freeE, outsE, pick, merE, wipeE, Nat.reduceAdd, Nat.reduceSub, Nat.reduceLeDiff, Nat.reduceLT, reduceCtorEq, if_true, if_false, eq_self, forall_const, Bool.false_and, frzT, String.reduceEq]
    refine ⟨by omega, ?_⟩
    refine w_lcL (fun xs acc ρ => ∃ done rest ys l' m' t' n', List.range k = done ++ rest ∧ xs = rest.map (fun i : Nat => PyData.int (0 + (i : Int))) ∧ acc = ys.map (fun c => PyData.str ⟨#[c]⟩) ∧ ys.length = done.length ∧ (∀ c ∈ ys, 97 ≤ c ∧ c ≤ 122) ∧ n' + rest.length = n + 2 + k ∧ DkOk n' l' m' t' ∧ ρ = [.own false (.deck 1 l' m' t'), .val (.int (k : Int)), .no]) ?_ ?_ _ _ _ ⟨[], List.range k, [], l2, m2, t2, n + 2, rfl, rfl, rfl, rfl, fun c h => (List.not_mem_nil h).elim, by rw [List.length_range], h2, rfl⟩
    · rintro x xs acc ρ ⟨done, rest, ys, l', m', t', n', g1, gx, rfl, g2, g3, g4, g5, rfl⟩
      cases rest with
      | nil => cases gx
      | cons i rest =>
        cases gx
        rw [List.length_cons] at g4
        have hlen := congrArg List.length g1
        rw [List.length_range, List.length_append, List.length_cons] at hlen
        simp (config := {maxSteps := 1000000}) only [Fj.wp0, Fj.wp1, Fj.wp2, Fj.wp3, Fj.wp4, Fj.wp5, Fj.wp6, Fj.wp7, Fj.wp8, Fj.wp9, Fj.wp10, Fj.wp11, Fj.wp12, Fj.wp13, Fj.wp14, Fj.wp15, Fj.wp16, Fj.wp17, Fj.wp18, Fj.wp19, Fj.wp20, Fj.wp21, Fj.wpz, Fj.wq0, Fj.wq1, Fj.wq2, Fj.tyN, Int.reduceEq, Int.reduceLT, Int.reduceLE, Int.reduceAdd, Int.reduceSub, Int.reduceMul, Int.reduceNeg, Int.reducePow, Int.reduceToNat, Int.reduceMod, Int.reduceDiv, Int.reduceNe, Nat.reduceEqDiff, Nat.reduceMul, borOk, dkAll, dkKept, nlD, nlAll, id, frz, freeE, outsE, pick, merE, wipeE, Nat.reduceAdd, Nat.reduceSub, Nat.reduceLeDiff, Nat.reduceLT, reduceCtorEq, if_true, if_false, eq_self, forall_const, Bool.false_and, frzT, String.reduceEq]
        refine (pickS_ok _ (by decide +kernel) (by decide +kernel) n' l' m' t' g5 (by omega)).mono ?_
        rintro _ _ ⟨⟨c, hc, rfl⟩, l'', m'', t'', o, rfl, h6⟩
        simp (config := {maxSteps := 1000000}) only [List.length_map, Fj.wp0, Fj.wp1, Fj.wp2, Fj.wp3, Fj.wp4, Fj.wp5, Fj.wp6, Fj.wp7, Fj.wp8, Fj.wp9, Fj.wp10, Fj.wp11, Fj.wp12, Fj.wp13, Fj.wp14, Fj.wp15, Fj.wp16, Fj.wp17, Fj.wp18, Fj.wp19, Fj.wp20, Fj.wp21, Fj.wpz, Fj.wq0, Fj.wq1, Fj.wq2, Fj.tyN, Int.reduceEq, Int.reduceLT, Int.reduceLE, Int.reduceAdd, Int.reduceSub, Int.reduceMul, Int.reduceNeg, Int.reducePow, Int.reduceToNat, Int.reduceMod, Int.reduceDiv, Int.reduceNe, Nat.reduceEqDiff, Nat.reduceMul, borOk, dkAll, dkKept, nlD, nlAll, id, frz, freeE, outsE, pick, merE, wipeE, Nat.reduceAdd, Nat.reduceSub, Nat.reduceLeDiff, Nat.reduceLT, reduceCtorEq, if_true, if_false, eq_self, forall_const, Bool.false_and, frzT, String.reduceEq]
        exact ⟨by omega, done ++ [i], rest, ys ++ [c], l'', m'', t'', n' + 1, by rw [g1, List.append_assoc]; rfl, rfl, by rw [List.map_append]; rfl, by rw [List.length_append, List.length_append, g2]; rfl, fun x hx => (List.mem_append.mp hx).elim (g3 x) fun z => by rw [List.mem_singleton.mp z]; exact of_letter hc, by omega, h6, rfl⟩
    · rintro acc ρ ⟨done, rest, ys, l', m', t', n', g1, gx, rfl, g2, g3, g4, g5, rfl⟩
      have : rest = [] := List.map_eq_nil_iff.mp gx.symm
      subst this
      rw [List.append_nil] at g1
      have hyl : ys.length = k := by rw [g2, ← g1, List.length_range]
      have e1 : (ys.map fun c => PyData.str ⟨#[c]⟩) = (ys.map fun c => (⟨#[c]⟩ : Str)).map .str := by rw [List.map_map]; rfl
      have e2 : ((ys.map fun c => (⟨#[c]⟩ : Str)).map fun x => x.cps.toList).flatten = ys := by
        rw [List.map_map]
        clear e1 g1 g2 g3 hyl
        induction ys with
        | nil => rfl
        | cons y ys ih => exact congrArg (List.cons y) ih
      have e3 : (((ys.map fun c => (⟨#[c]⟩ : Str)).map (·.length)).sum) = ys.length := by
        rw [List.map_map]
        clear e1 e2 g1 g2 g3 hyl
        induction ys with
        | nil => rfl
        | cons y ys ih =>
          rw [List.map_cons, List.sum_cons, ih, List.length_cons, Nat.add_comm]
          rfl
      have hj := join_cps (ys.map fun c => (⟨#[c]⟩ : Str))
      rw [e2] at hj
      rw [e1]
      simp (config := {maxSteps := 1000000}) only [e3, List.length_map, Fj.wp0, Fj.wp1, Fj.wp2, Fj.wp3, Fj.wp4, Fj.wp5, Fj.wp6, Fj.wp7, Fj.wp8, Fj.wp9, Fj.wp10, Fj.wp11, Fj.wp12, Fj.wp13, Fj.wp14, Fj.wp15, Fj.wp16, Fj.wp17, Fj.wp18, Fj.wp19, Fj.wp20, Fj.wp21, Fj.wpz, Fj.wq0, Fj.wq1, Fj.wq2, Fj.tyN, Int.reduceEq, Int.reduceLT, Int.reduceLE, Int.reduceAdd, Int.reduceSub, Int.reduceMul, Int.reduceNeg, Int.reducePow, Int.reduceToNat, Int.reduceMod, Int.reduceDiv, Int.reduceNe, Nat.reduceEqDiff, Nat.reduceMul, borOk, dkAll, dkKept, nlD, nlAll, id, frz, freeE, outsE, pick, merE, wipeE, Nat.reduceAdd, Nat.reduceSub, Nat.reduceLeDiff, Nat.reduceLT, reduceCtorEq, if_true, if_false, eq_self, forall_const, Bool.false_and, frzT, String.reduceEq]
      refine ⟨by rw [show (("" : Str).length) = 0 from rfl]; omega, ⟨_, ⟨?_, ?_, ?_⟩, rfl⟩, l', m', t', _, rfl, dk_mono g5 (by simp at g4; omega)⟩
      · rw [len_tl, hj]
        omega
      · rw [len_tl, hj]
        omega
      · rw [hj]
        exact g3
end L_k16

set_option maxRecDepth 100000
set_option maxHeartbeats 0
set_option linter.all false
set_option linter.unusedSimpArgs false
namespace L_k16
open PySem PySem.Spec PyProof.Rows L2 Fj
theorem nd_isort {xs : List Str} (nd : xs.Nodup) : (isort ltT xs).Nodup := (isort_perm _ _).nodup_iff.mpr nd
theorem srtT_nd (xs : List Str) : (srtT xs).Nodup := nd_isort (nodup_dedup xs)
theorem words_ok (k : Nat) (hk : k ≤ 4) : Dk 80 mf__law_some_words [.val (.int (k : Int))] fun e => ∃ xs : List Str, e = .own true (.lst (xs.map .str)) ∧ xs.length ≤ k ∧ (∀ x ∈ xs, okW x) ∧ xs.Nodup := by
  intro n l m t hd hn
  simp (config := {maxSteps := 1000000}) only [mf__law_some_words, mb__law_some_words, lc__law_some_words_1, Int.toNat_natCast, rngD_map, Fj.wp0, Fj.wp1, Fj.wp2, Fj.wp3, Fj.wp4, Fj.wp5, Fj.wp6, Fj.wp7, Fj.wp8, Fj.wp9, Fj.wp10, Fj.wp11, Fj.wp12, Fj.wp13, Fj.wp14, Fj.wp15, Fj.wp16, Fj.wp17, Fj.wp18, Fj.wp19, Fj.wp20, Fj.wp21, Fj.wpz, Fj.wq0, Fj.wq1, Fj.wq2, Fj.tyN, Int.reduceEq, Int.reduceLT, Int.reduceLE, Int.reduceAdd, Int.reduceSub, Int.reduceMul, Int.reduceNeg, Int.reducePow, Int.reduceToNat, Int.reduceMod, Int.reduceDiv, Int.reduceNe, Nat.reduceEqDiff, Nat.reduceMul, borOk, dkAll, dkKept, nlD, nlAll, id, frz, freeE, outsE, pick, merE, wipeE, Nat.reduceAdd, Nat.reduceSub, Nat.reduceLeDiff, Nat.reduceLT, reduceCtorEq, if_true, if_false, eq_self, forall_const, Bool.false_and, frzT, String.reduceEq]
  refine ⟨by omega, ?_⟩
  refine w_lcL (fun xs acc ρ => ∃ done rest ws l' m' t' n', List.range k = done ++ rest ∧ xs = rest.map (fun i : Nat => PyData.int (0 + (i : Int))) ∧ acc = ws.map .str ∧ ws.length = done.length ∧ (∀ x ∈ ws, okW x) ∧ n' + 20 * rest.length = n + 20 * k ∧ DkOk n' l' m' t' ∧ ρ = [.own false (.deck 1 l' m' t'), .val (.int (k : Int)), .no]) ?_ ?_ _ _ _ ⟨[], List.range k, [], l, m, t, n, rfl, rfl, rfl, rfl, fun x h => (List.not_mem_nil h).elim, by rw [List.length_range], hd, rfl⟩
  · rintro x xs acc ρ ⟨done, rest, ws, l', m', t', n', g1, gx, rfl, g2, g3, g4, g5, rfl⟩
    cases rest with
    | nil => cases gx
    | cons i rest =>
      cases gx
      rw [List.length_cons] at g4
      have hlen := congrArg List.length g1
      rw [List.length_range, List.length_append, List.length_cons] at hlen
      simp (config := {maxSteps := 1000000}) only [Fj.wp0, Fj.wp1, Fj.wp2, Fj.wp3, Fj.wp4, Fj.wp5, Fj.wp6, Fj.wp7, Fj.wp8, Fj.wp9, Fj.wp10, Fj.wp11, Fj.wp12, Fj.wp13, Fj.wp14, Fj.wp15, Fj.wp16, Fj.wp17, Fj.wp18, Fj.wp19, Fj.wp20, Fj.wp21, Fj.wpz, Fj.wq0, Fj.wq1, Fj.wq2, Fj.tyN, Int.reduceEq, Int.reduceLT, Int.reduceLE, Int.reduceAdd, Int.reduceSub, Int.reduceMul, Int.reduceNeg, Int.reducePow, Int.reduceToNat, Int.reduceMod, Int.reduceDiv, Int.reduceNe, Nat.reduceEqDiff, Nat.reduceMul, borOk, dkAll, dkKept, nlD, nlAll, id, frz, freeE, outsE, pick, merE, wipeE, Nat.reduceAdd, Nat.reduceSub, Nat.reduceLeDiff, Nat.reduceLT, reduceCtorEq, if_true, if_false, eq_self, forall_const, Bool.false_and, frzT, String.reduceEq]
      refine (word_ok n' l' m' t' g5 (by omega)).mono ?_
      rintro _ _ ⟨⟨x, hx, rfl⟩, l'', m'', t'', o, rfl, h6⟩
      simp (config := {maxSteps := 1000000}) only [List.length_map, Fj.wp0, Fj.wp1, Fj.wp2, Fj.wp3, Fj.wp4, Fj.wp5, Fj.wp6, Fj.wp7, Fj.wp8, Fj.wp9, Fj.wp10, Fj.wp11, Fj.wp12, Fj.wp13, Fj.wp14, Fj.wp15, Fj.wp16, Fj.wp17, Fj.wp18, Fj.wp19, Fj.wp20, Fj.wp21, Fj.wpz, Fj.wq0, Fj.wq1, Fj.wq2, Fj.tyN, Int.reduceEq, Int.reduceLT, Int.reduceLE, Int.reduceAdd, Int.reduceSub, Int.reduceMul, Int.reduceNeg, Int.reducePow, Int.reduceToNat, Int.reduceMod, Int.reduceDiv, Int.reduceNe, Nat.reduceEqDiff, Nat.reduceMul, borOk, dkAll, dkKept, nlD, nlAll, id, frz, freeE, outsE, pick, merE, wipeE, Nat.reduceAdd, Nat.reduceSub, Nat.reduceLeDiff, Nat.reduceLT, reduceCtorEq, if_true, if_false, eq_self, forall_const, Bool.false_and, frzT, String.reduceEq]
      exact ⟨by omega, done ++ [i], rest, ws ++ [x], l'', m'', t'', n' + 20, by rw [g1, List.append_assoc]; rfl, rfl, by rw [List.map_append]; rfl, by rw [List.length_append, List.length_append, g2]; rfl, fun y hy => (List.mem_append.mp hy).elim (g3 y) fun z => by rw [List.mem_singleton.mp z]; exact hx, by omega, h6, rfl⟩
  · rintro acc ρ ⟨done, rest, ws, l', m', t', n', g1, gx, rfl, g2, g3, g4, g5, rfl⟩
    have : rest = [] := List.map_eq_nil_iff.mp gx.symm
    subst this
    rw [List.append_nil] at g1
    have hwl : ws.length = k := by rw [g2, ← g1, List.length_range]
    simp (config := {maxSteps := 1000000}) only [ss2_S, Fj.wp0, Fj.wp1, Fj.wp2, Fj.wp3, Fj.wp4, Fj.wp5, Fj.wp6, Fj.wp7, Fj.wp8, Fj.wp9, Fj.wp10, Fj.wp11, Fj.wp12, Fj.wp13, Fj.wp14, Fj.wp15, Fj.wp16, Fj.wp17, Fj.wp18, Fj.wp19, Fj.wp20, Fj.wp21, Fj.wpz, Fj.wq0, Fj.wq1, Fj.wq2, Fj.tyN, Int.reduceEq, Int.reduceLT, Int.reduceLE, Int.reduceAdd, Int.reduceSub, Int.reduceMul, Int.reduceNeg, Int.reducePow, Int.reduceToNat, Int.reduceMod, Int.reduceDiv, Int.reduceNe, Nat.reduceEqDiff, Nat.reduceMul, borOk, dkAll, dkKept, nlD, nlAll, id, frz, freeE, outsE, pick, merE, wipeE, Nat.reduceAdd, Nat.reduceSub, Nat.reduceLeDiff, Nat.reduceLT, reduceCtorEq, if_true, if_false, eq_self, forall_const, Bool.false_and, frzT, String.reduceEq]
    refine ⟨by omega, ⟨srtT ws, rfl, by rw [← hwl]; exact srtT_len ws, fun x hx => g3 x (srtT_mem.mp hx), srtT_nd ws⟩, l', m', t', _, rfl, dk_mono g5 (by simp at g4; omega)⟩
theorem pairs_ok : Dk 500 mf__law_some_pairs [] fun e => ∃ ps : List (Str × Str), e = .own true (.lst (ps.map kvD)) ∧ ps.length ≤ 8 ∧ ∀ p ∈ ps, okQ p := by
  intro n l m t hd hn
  simp (config := {maxSteps := 1000000}) only [mf__law_some_pairs, mb__law_some_pairs, mb__law_some_pairs_2, Fj.wp0, Fj.wp1, Fj.wp2, Fj.wp3, Fj.wp4, Fj.wp5, Fj.wp6, Fj.wp7, Fj.wp8, Fj.wp9, Fj.wp10, Fj.wp11, Fj.wp12, Fj.wp13, Fj.wp14, Fj.wp15, Fj.wp16, Fj.wp17, Fj.wp18, Fj.wp19, Fj.wp20, Fj.wp21, Fj.wpz, Fj.wq0, Fj.wq1, Fj.wq2, Fj.tyN, Int.reduceEq, Int.reduceLT, Int.reduceLE, Int.reduceAdd, Int.reduceSub, Int.reduceMul, Int.reduceNeg, Int.reducePow, Int.reduceToNat, Int.reduceMod, Int.reduceDiv, Int.reduceNe, Nat.reduceEqDiff, Nat.reduceMul, borOk, dkAll, dkKept, nlD, nlAll, id, frz, freeE, outsE, pick, merE, wipeE, Nat.reduceAdd, Nat.reduceSub, Nat.reduceLeDiff, Nat.reduceLT, reduceCtorEq, if_true, if_false, eq_self, forall_const, Bool.false_and, frzT, String.reduceEq]
  refine (pick_ok n l m t _ hd (by omega) (by simp) (by simp)).mono ?_
  rintro _ _ ⟨d, l2, m2, t2, o, hm, rfl, rfl, h2⟩
  obtain ⟨k, rfl, k2⟩ : ∃ k : Nat, d = .int (k : Int) ∧ k ≤ 4 := by
    simp only [List.mem_cons, List.not_mem_nil, or_false] at hm
    rcases hm with rfl | rfl | rfl | rfl | rfl
    · exact ⟨1, rfl, by decide⟩
    · exact ⟨2, rfl, by decide⟩
    · exact ⟨2, rfl, by decide⟩
    · exact ⟨3, rfl, by decide⟩
    · exact ⟨4, rfl, by decide⟩
  simp (config := {maxSteps := 1000000}) only [Fj.wp0, Fj.wp1, Fj.wp2, Fj.wp3, Fj.wp4, Fj.wp5, Fj.wp6, Fj.wp7, Fj.wp8, Fj.wp9, Fj.wp10, Fj.wp11, Fj.wp12, Fj.wp13, Fj.wp14, Fj.wp15, Fj.wp16, Fj.wp17, Fj.wp18, Fj.wp19, Fj.wp20, Fj.wp21, Fj.wpz, Fj.wq0, Fj.wq1, Fj.wq2, Fj.tyN, Int.reduceEq, Int.reduceLT, Int.reduceLE, Int.reduceAdd, Int.reduceSub, Int.reduceMul, Int.reduceNeg, Int.reducePow, Int.reduceToNat, Int.reduceMod, Int.reduceDiv, Int.reduceNe, Nat.reduceEqDiff, Nat.reduceMul, borOk, dkAll, dkKept, nlD, nlAll, id, frz, freeE, outsE, pick, merE, wipeE, Nat.reduceAdd, Nat.reduceSub, Nat.reduceLeDiff, Nat.reduceLT, reduceCtorEq, if_true, if_false, eq_self, forall_const, Bool.false_and, frzT, String.reduceEq]
  refine (words_ok k k2 (n + 1) l2 m2 t2 h2 (by omega)).mono ?_
  rintro _ _ ⟨⟨ks, rfl, k3, k4, -⟩, l3, m3, t3, o, rfl, h3⟩
  simp (config := {maxSteps := 1000000}) only [Fj.wp0, Fj.wp1, Fj.wp2, Fj.wp3, Fj.wp4, Fj.wp5, Fj.wp6, Fj.wp7, Fj.wp8, Fj.wp9, Fj.wp10, Fj.wp11, Fj.wp12, Fj.wp13, Fj.wp14, Fj.wp15, Fj.wp16, Fj.wp17, Fj.wp18, Fj.wp19, Fj.wp20, Fj.wp21, Fj.wpz, Fj.wq0, Fj.wq1, Fj.wq2, Fj.tyN, Int.reduceEq, Int.reduceLT, Int.reduceLE, Int.reduceAdd, Int.reduceSub, Int.reduceMul, Int.reduceNeg, Int.reducePow, Int.reduceToNat, Int.reduceMod, Int.reduceDiv, Int.reduceNe, Nat.reduceEqDiff, Nat.reduceMul, borOk, dkAll, dkKept, nlD, nlAll, id, frz, freeE, outsE, pick, merE, wipeE, Nat.reduceAdd, Nat.reduceSub, Nat.reduceLeDiff, Nat.reduceLT, reduceCtorEq, if_true, if_false, eq_self, forall_const, Bool.false_and, frzT, String.reduceEq]
  refine w_forL (fun xs ρ => ∃ done rest ps l' m' t' n' e2 e3, ks = done ++ rest ∧ xs = rest.map .str ∧ ps.length ≤ 2 * done.length ∧ (∀ p ∈ ps, okQ p) ∧ n' + 80 * rest.length = n + 81 + 80 * ks.length ∧ DkOk n' l' m' t' ∧ Pl e2 ∧ Pl e3 ∧ ρ = [.own false (.deck 1 l' m' t'), .own true (.lst (ps.map kvD)), e2, e3]) ?_ ?_ _ _ ⟨[], ks, [], l3, m3, t3, n + 1 + 80, _, _, rfl, rfl, Nat.le_refl _, fun p h => (List.not_mem_nil h).elim, rfl, h3, .no, .no, rfl⟩
  · rintro x xs ρ ⟨done, rest, ps, l', m', t', n', e2, e3, g1, gx, g2, g3, g4, g5, p2, p3, rfl⟩
    cases rest with
    | nil => cases gx
    | cons k rest =>
      cases gx
      rw [List.length_cons] at g4
      have hlen := congrArg List.length g1
      rw [List.length_append, List.length_cons] at hlen
      have hk : okW k := k4 k (by rw [g1]; simp)
      simp (config := {maxSteps := 1000000}) only [p2.all, p3.all, lc__law_some_pairs_1, Fj.wp0, Fj.wp1, Fj.wp2, Fj.wp3, Fj.wp4, Fj.wp5, Fj.wp6, Fj.wp7, Fj.wp8, Fj.wp9, Fj.wp10, Fj.wp11, Fj.wp12, Fj.wp13, Fj.wp14, Fj.wp15, Fj.wp16, Fj.wp17, Fj.wp18, Fj.wp19, Fj.wp20, Fj.wp21, Fj.wpz, Fj.wq0, Fj.wq1, Fj.wq2, Fj.tyN, Int.reduceEq, Int.reduceLT, Int.reduceLE, Int.reduceAdd, Int.reduceSub, Int.reduceMul, Int.reduceNeg, Int.reducePow, Int.reduceToNat, Int.reduceMod, Int.reduceDiv, Int.reduceNe, Nat.reduceEqDiff, Nat.reduceMul, borOk, dkAll, dkKept, nlD, nlAll, id, frz, freeE, outsE, pick, merE, wipeE, Nat.reduceAdd, Nat.reduceSub, Nat.reduceLeDiff, Nat.reduceLT, reduceCtorEq, if_true, if_false, eq_self, forall_const, Bool.false_and, frzT, String.reduceEq]
      refine (words_ok 2 (by decide) n' l' m' t' g5 (by omega)).mono ?_
      rintro _ _ ⟨⟨vs, rfl, v3, v4, -⟩, l4, m4, t4, o, rfl, h4⟩
      simp (config := {maxSteps := 1000000}) only [p2.all, p3.all, Fj.wp0, Fj.wp1, Fj.wp2, Fj.wp3, Fj.wp4, Fj.wp5, Fj.wp6, Fj.wp7, Fj.wp8, Fj.wp9, Fj.wp10, Fj.wp11, Fj.wp12, Fj.wp13, Fj.wp14, Fj.wp15, Fj.wp16, Fj.wp17, Fj.wp18, Fj.wp19, Fj.wp20, Fj.wp21, Fj.wpz, Fj.wq0, Fj.wq1, Fj.wq2, Fj.tyN, Int.reduceEq, Int.reduceLT, Int.reduceLE, Int.reduceAdd, Int.reduceSub, Int.reduceMul, Int.reduceNeg, Int.reducePow, Int.reduceToNat, Int.reduceMod, Int.reduceDiv, Int.reduceNe, Nat.reduceEqDiff, Nat.reduceMul, borOk, dkAll, dkKept, nlD, nlAll, id, frz, freeE, outsE, pick, merE, wipeE, Nat.reduceAdd, Nat.reduceSub, Nat.reduceLeDiff, Nat.reduceLT, reduceCtorEq, if_true, if_false, eq_self, forall_const, Bool.false_and, frzT, String.reduceEq]
      refine w_lcMap (xs := vs) PyData.str (fun v => kvD (k, v)) (fun v hv => ?_) (by omega) ?_
      · simp (config := {maxSteps := 1000000}) only [p2.all, p3.all, Fj.wp0, Fj.wp1, Fj.wp2, Fj.wp3, Fj.wp4, Fj.wp5, Fj.wp6, Fj.wp7, Fj.wp8, Fj.wp9, Fj.wp10, Fj.wp11, Fj.wp12, Fj.wp13, Fj.wp14, Fj.wp15, Fj.wp16, Fj.wp17, Fj.wp18, Fj.wp19, Fj.wp20, Fj.wp21, Fj.wpz, Fj.wq0, Fj.wq1, Fj.wq2, Fj.tyN, Int.reduceEq, Int.reduceLT, Int.reduceLE, Int.reduceAdd, Int.reduceSub, Int.reduceMul, Int.reduceNeg, Int.reducePow, Int.reduceToNat, Int.reduceMod, Int.reduceDiv, Int.reduceNe, Nat.reduceEqDiff, Nat.reduceMul, borOk, dkAll, dkKept, nlD, nlAll, id, frz, freeE, outsE, pick, merE, wipeE, Nat.reduceAdd, Nat.reduceSub, Nat.reduceLeDiff, Nat.reduceLT, reduceCtorEq, if_true, if_false, eq_self, forall_const, Bool.false_and, frzT, String.reduceEq]
      · simp (config := {maxSteps := 1000000}) only [p2.all, p3.all, List.length_map, Fj.wp0, Fj.wp1, Fj.wp2, Fj.wp3, Fj.wp4, Fj.wp5, Fj.wp6, Fj.wp7, Fj.wp8, Fj.wp9, Fj.wp10, Fj.wp11, Fj.wp12, Fj.wp13, Fj.wp14, Fj.wp15, Fj.wp16, Fj.wp17, Fj.wp18, Fj.wp19, Fj.wp20, Fj.wp21, Fj.wpz, Fj.wq0, Fj.wq1, Fj.wq2, Fj.tyN, Int.reduceEq, Int.reduceLT, Int.reduceLE, Int.reduceAdd, Int.reduceSub, Int.reduceMul, Int.reduceNeg, Int.reducePow, Int.reduceToNat, Int.reduceMod, Int.reduceDiv, Int.reduceNe, Nat.reduceEqDiff, Nat.reduceMul, borOk, dkAll, dkKept, nlD, nlAll, id, frz, freeE, outsE, pick, merE, wipeE, Nat.reduceAdd, Nat.reduceSub, Nat.reduceLeDiff, Nat.reduceLT, reduceCtorEq, if_true, if_false, eq_self, forall_const, Bool.false_and, frzT, String.reduceEq]
        refine ⟨by omega, done ++ [k], rest, ps ++ vs.map (fun v => (k, v)), l4, m4, t4, n' + 80, .val (.str k), .no, by rw [g1, List.append_assoc]; rfl, rfl, ?_, fun p hp => ?_, by omega, h4, .val, .no, ?_⟩
        · rw [List.length_append, List.length_map, List.length_append, List.length_singleton]
          omega
        · rcases List.mem_append.mp hp with z | z
          · exact g3 p z
          · obtain ⟨v, hv, rfl⟩ := List.mem_map.mp z
            exact ⟨hk, v4 v hv⟩
        · rw [List.map_append, List.map_map]
          rfl
  · rintro ρ ⟨done, rest, ps, l', m', t', n', e2, e3, g1, gx, g2, g3, g4, g5, p2, p3, rfl⟩
    have : rest = [] := List.map_eq_nil_iff.mp gx.symm
    subst this
    rw [List.append_nil] at g1
    rw [← g1] at g2
    simp (config := {maxSteps := 1000000}) only [p2.all, p3.all, Fj.wp0, Fj.wp1, Fj.wp2, Fj.wp3, Fj.wp4, Fj.wp5, Fj.wp6, Fj.wp7, Fj.wp8, Fj.wp9, Fj.wp10, Fj.wp11, Fj.wp12, Fj.wp13, Fj.wp14, Fj.wp15, Fj.wp16, Fj.wp17, Fj.wp18, Fj.wp19, Fj.wp20, Fj.wp21, Fj.wpz, Fj.wq0, Fj.wq1, Fj.wq2, Fj.tyN, Int.reduceEq, Int.reduceLT, Int.reduceLE, Int.reduceAdd, Int.reduceSub, Int.reduceMul, Int.reduceNeg, Int.reducePow, Int.reduceToNat, Int.reduceMod, Int.reduceDiv, Int.reduceNe, Nat.reduceEqDiff, Nat.reduceMul, borOk, dkAll, dkKept, nlD, nlAll, id, frz, freeE, outsE, pick, merE, wipeE, Nat.reduceAdd, Nat.reduceSub, Nat.reduceLeDiff, Nat.reduceLT, reduceCtorEq, if_true, if_false, eq_self, forall_const, Bool.false_and, frzT, String.reduceEq]
    exact ⟨⟨ps, rfl, by omega, g3⟩, l', m', t', _, rfl, dk_mono g5 (by rw [List.length_nil] at g4; omega)⟩
def cst : Nat → Nat
  | 0 => 6
  | d + 1 => 2 * cst d + 4
theorem cst_le : ∀ d, 6 ≤ cst d
  | 0 => Nat.le_refl _
  | d + 1 => by have := cst_le d; unfold cst; omega
theorem cst_up {d : Nat} (h : d ≤ 3) : cst d ≤ 100 := by
  have : ∀ e : Fin 4, cst e.1 ≤ 100 := by decide
  exact this ⟨d, by omega⟩
theorem cst_s (d : Nat) : cst (d + 1) = 2 * cst d + 4 := rfl
theorem leaf_ok {ps : List (Str × Str)} (hp : ∀ p ∈ ps, okQ p) (hl : ps.length ≤ 100) {r : MF} {a b : PyData} {k : En → Prop} {most d n N : Nat} {l l0 : List Int} {m t m0 t0 : Int} (hm : 1 ≤ most) (hd : DkOk n l m t) (hn : n + 2 ≤ 2 ^ 62) (hN : n + 2 ≤ N) :
    W1 (mb__law_any_condition_1 r [.own false (.deck 1 l m t), .val (.list (ps.map kvD)), .val a, .val b, .no, .no]) (nxt k (endF [.own false (.deck 1 l0 m0 t0), .val (.list (ps.map kvD)), .val a, .val b] fun e outs => (∃ c : Co, e = .val c.D ∧ c.siz ≤ most ∧ c.dep ≤ d + 1 ∧ c.ok) ∧ ∃ l' m' t' o, outs = .own false (.deck 1 l' m' t') :: o ∧ DkOk N l' m' t')) := by
  by_cases hnil : ps = []
  · subst hnil
    simp (config := {maxSteps := 1000000}) only [mb__law_any_condition_1, List.map_nil, Fj.wp0, Fj.wp1, Fj.wp2, Fj.wp3, Fj.wp4, Fj.wp5, Fj.wp6, Fj.wp7, Fj.wp8, Fj.wp9, Fj.wp10, Fj.wp11, Fj.wp12, Fj.wp13, Fj.wp14, Fj.wp15, Fj.wp16, Fj.wp17, Fj.wp18, Fj.wp19, Fj.wp20, Fj.wp21, Fj.wpz, Fj.wq0, Fj.wq1, Fj.wq2, Fj.tyN, Int.reduceEq, Int.reduceLT, Int.reduceLE, Int.reduceAdd, Int.reduceSub, Int.reduceMul, Int.reduceNeg, Int.reducePow, Int.reduceToNat, Int.reduceMod, Int.reduceDiv, Int.reduceNe, Nat.reduceEqDiff, Nat.reduceMul, borOk, dkAll, dkKept, nlD, nlAll, id, frz, freeE, outsE, pick, merE, wipeE, Nat.reduceAdd, Nat.reduceSub, Nat.reduceLeDiff, Nat.reduceLT, reduceCtorEq, if_true, if_false, eq_self, forall_const, Bool.false_and, frzT, String.reduceEq]
    exact ⟨⟨.al, rfl, hm, Nat.le_add_left _ _, fun p h => (List.not_mem_nil h).elim⟩, _, _, _, _, rfl, dk_mono hd (by omega)⟩
  · have hne : (ps.map kvD).isEmpty = false := by
      cases ps with
      | nil => exact absurd rfl hnil
      | cons p ps => rfl
    simp (config := {maxSteps := 1000000}) only [mb__law_any_condition_1, hne, Fj.wp0, Fj.wp1, Fj.wp2, Fj.wp3, Fj.wp4, Fj.wp5, Fj.wp6, Fj.wp7, Fj.wp8, Fj.wp9, Fj.wp10, Fj.wp11, Fj.wp12, Fj.wp13, Fj.wp14, Fj.wp15, Fj.wp16, Fj.wp17, Fj.wp18, Fj.wp19, Fj.wp20, Fj.wp21, Fj.wpz, Fj.wq0, Fj.wq1, Fj.wq2, Fj.tyN, Int.reduceEq, Int.reduceLT, Int.reduceLE, Int.reduceAdd, Int.reduceSub, Int.reduceMul, Int.reduceNeg, Int.reducePow, Int.reduceToNat, Int.reduceMod, Int.reduceDiv, Int.reduceNe, Nat.reduceEqDiff, Nat.reduceMul, borOk, dkAll, dkKept, nlD, nlAll, id, frz, freeE, outsE, pick, merE, wipeE, Nat.reduceAdd, Nat.reduceSub, Nat.reduceLeDiff, Nat.reduceLT, reduceCtorEq, if_true, if_false, eq_self, forall_const, Bool.false_and, frzT, String.reduceEq]
    refine (draw_ok n l m t 8 hd (by omega) (by decide) (by decide)).mono ?_
    rintro _ _ ⟨r, l', m', t', o, rfl, r0, r1, rfl, h1⟩
    by_cases hr : r = 0
    · simp (config := {maxSteps := 1000000}) only [hr, Fj.wp0, Fj.wp1, Fj.wp2, Fj.wp3, Fj.wp4, Fj.wp5, Fj.wp6, Fj.wp7, Fj.wp8, Fj.wp9, Fj.wp10, Fj.wp11, Fj.wp12, Fj.wp13, Fj.wp14, Fj.wp15, Fj.wp16, Fj.wp17, Fj.wp18, Fj.wp19, Fj.wp20, Fj.wp21, Fj.wpz, Fj.wq0, Fj.wq1, Fj.wq2, Fj.tyN, Int.reduceEq, Int.reduceLT, Int.reduceLE, Int.reduceAdd, Int.reduceSub, Int.reduceMul, Int.reduceNeg, Int.reducePow, Int.reduceToNat, Int.reduceMod, Int.reduceDiv, Int.reduceNe, Nat.reduceEqDiff, Nat.reduceMul, borOk, dkAll, dkKept, nlD, nlAll, id, frz, freeE, outsE, pick, merE, wipeE, Nat.reduceAdd, Nat.reduceSub, Nat.reduceLeDiff, Nat.reduceLT, reduceCtorEq, if_true, if_false, eq_self, forall_const, Bool.false_and, frzT, String.reduceEq]
      exact ⟨⟨.al, rfl, hm, Nat.le_add_left _ _, fun p h => (List.not_mem_nil h).elim⟩, _, _, _, _, rfl, dk_mono h1 (by omega)⟩
    · simp (config := {maxSteps := 1000000}) only [hr, Fj.wp0, Fj.wp1, Fj.wp2, Fj.wp3, Fj.wp4, Fj.wp5, Fj.wp6, Fj.wp7, Fj.wp8, Fj.wp9, Fj.wp10, Fj.wp11, Fj.wp12, Fj.wp13, Fj.wp14, Fj.wp15, Fj.wp16, Fj.wp17, Fj.wp18, Fj.wp19, Fj.wp20, Fj.wp21, Fj.wpz, Fj.wq0, Fj.wq1, Fj.wq2, Fj.tyN, Int.reduceEq, Int.reduceLT, Int.reduceLE, Int.reduceAdd, Int.reduceSub, Int.reduceMul, Int.reduceNeg, Int.reducePow, Int.reduceToNat, Int.reduceMod, Int.reduceDiv, Int.reduceNe, Nat.reduceEqDiff, Nat.reduceMul, borOk, dkAll, dkKept, nlD, nlAll, id, frz, freeE, outsE, pick, merE, wipeE, Nat.reduceAdd, Nat.reduceSub, Nat.reduceLeDiff, Nat.reduceLT, reduceCtorEq, if_true, if_false, eq_self, forall_const, Bool.false_and, frzT, String.reduceEq]
      refine (pick_ok (n + 1) l' m' t' _ h1 (by omega) (by simpa using hnil) (by rw [List.length_map]; omega)).mono ?_
      rintro _ _ ⟨d', l2, m2, t2, o, hmm, rfl, rfl, h2⟩
      obtain ⟨p, hpm, rfl⟩ := List.mem_map.mp hmm
      simp (config := {maxSteps := 1000000}) only [Fj.wp0, Fj.wp1, Fj.wp2, Fj.wp3, Fj.wp4, Fj.wp5, Fj.wp6, Fj.wp7, Fj.wp8, Fj.wp9, Fj.wp10, Fj.wp11, Fj.wp12, Fj.wp13, Fj.wp14, Fj.wp15, Fj.wp16, Fj.wp17, Fj.wp18, Fj.wp19, Fj.wp20, Fj.wp21, Fj.wpz, Fj.wq0, Fj.wq1, Fj.wq2, Fj.tyN, Int.reduceEq, Int.reduceLT, Int.reduceLE, Int.reduceAdd, Int.reduceSub, Int.reduceMul, Int.reduceNeg, Int.reducePow, Int.reduceToNat, Int.reduceMod, Int.reduceDiv, Int.reduceNe, Nat.reduceEqDiff, Nat.reduceMul, borOk, dkAll, dkKept, nlD, nlAll, id, frz, freeE, outsE, pick, merE, wipeE, Nat.reduceAdd, Nat.reduceSub, Nat.reduceLeDiff, Nat.reduceLT, reduceCtorEq, if_true, if_false, eq_self, forall_const, Bool.false_and, frzT, String.reduceEq]
      exact ⟨⟨.is p.1 p.2, rfl, hm, Nat.le_add_left _ _, fun q h => by rw [List.mem_singleton.mp h]; exact hp p hpm⟩, _, _, _, _, rfl, dk_mono h2 (by omega)⟩
theorem cond_ok {ps : List (Str × Str)} (hp : ∀ p ∈ ps, okQ p) (hl : ps.length ≤ 100) : ∀ (d f most : Nat), d ≤ 3 → d ≤ f → 1 ≤ most → most ≤ 9 → Dk (cst d) (mf__law_any_condition (f + 1)) [.val (.list (ps.map kvD)), .val (.int (most : Int)), .val (.int ((d + 1 : Nat) : Int))] fun e => ∃ c : Co, e = .val c.D ∧ c.siz ≤ most ∧ c.dep ≤ d + 1 ∧ c.ok := by
  intro d
  induction d with
  | zero =>
    have z0 : cst 0 = 6 := rfl
    intro f most h1 h2 h3 h4 n l m t hd hn
    have hn : n + 6 ≤ 2 ^ 62 := hn
    by_cases hm : (most : Int) < 2
    · simp (config := {maxSteps := 1000000}) only [mf__law_any_condition, mb__law_any_condition, mb__law_any_condition_2, hm, Fj.wp0, Fj.wp1, Fj.wp2, Fj.wp3, Fj.wp4, Fj.wp5, Fj.wp6, Fj.wp7, Fj.wp8, Fj.wp9, Fj.wp10, Fj.wp11, Fj.wp12, Fj.wp13, Fj.wp14, Fj.wp15, Fj.wp16, Fj.wp17, Fj.wp18, Fj.wp19, Fj.wp20, Fj.wp21, Fj.wpz, Fj.wq0, Fj.wq1, Fj.wq2, Fj.tyN, Int.reduceEq, Int.reduceLT, Int.reduceLE, Int.reduceAdd, Int.reduceSub, Int.reduceMul, Int.reduceNeg, Int.reducePow, Int.reduceToNat, Int.reduceMod, Int.reduceDiv, Int.reduceNe, Nat.reduceEqDiff, Nat.reduceMul, borOk, dkAll, dkKept, nlD, nlAll, id, frz, freeE, outsE, pick, merE, wipeE, Nat.reduceAdd, Nat.reduceSub, Nat.reduceLeDiff, Nat.reduceLT, reduceCtorEq, if_true, if_false, eq_self, forall_const, Bool.false_and, frzT, String.reduceEq]
      exact leaf_ok hp hl h3 hd (by omega) (by omega)
    · simp (config := {maxSteps := 1000000}) only [mf__law_any_condition, mb__law_any_condition, mb__law_any_condition_2, hm, Fj.wp0, Fj.wp1, Fj.wp2, Fj.wp3, Fj.wp4, Fj.wp5, Fj.wp6, Fj.wp7, Fj.wp8, Fj.wp9, Fj.wp10, Fj.wp11, Fj.wp12, Fj.wp13, Fj.wp14, Fj.wp15, Fj.wp16, Fj.wp17, Fj.wp18, Fj.wp19, Fj.wp20, Fj.wp21, Fj.wpz, Fj.wq0, Fj.wq1, Fj.wq2, Fj.tyN, Int.reduceEq, Int.reduceLT, Int.reduceLE, Int.reduceAdd, Int.reduceSub, Int.reduceMul, Int.reduceNeg, Int.reducePow, Int.reduceToNat, Int.reduceMod, Int.reduceDiv, Int.reduceNe, Nat.reduceEqDiff, Nat.reduceMul, borOk, dkAll, dkKept, nlD, nlAll, id, frz, freeE, outsE, pick, merE, wipeE, Nat.reduceAdd, Nat.reduceSub, Nat.reduceLeDiff, Nat.reduceLT, reduceCtorEq, if_true, if_false, eq_self, forall_const, Bool.false_and, frzT, String.reduceEq]
      exact leaf_ok hp hl h3 hd (by omega) (by omega)
  | succ d ih =>
    intro f most h1 h2 h3 h4 n l m t hd hn
    have hc := cst_up (d := d) (by omega)
    have hc2 : n + (2 * cst d + 4) ≤ 2 ^ 62 := hn
    have hc3 := cst_le d
    by_cases hm : (most : Int) < 2
    · simp (config := {maxSteps := 1000000}) only [mf__law_any_condition, mb__law_any_condition, mb__law_any_condition_2, hm, Fj.wp0, Fj.wp1, Fj.wp2, Fj.wp3, Fj.wp4, Fj.wp5, Fj.wp6, Fj.wp7, Fj.wp8, Fj.wp9, Fj.wp10, Fj.wp11, Fj.wp12, Fj.wp13, Fj.wp14, Fj.wp15, Fj.wp16, Fj.wp17, Fj.wp18, Fj.wp19, Fj.wp20, Fj.wp21, Fj.wpz, Fj.wq0, Fj.wq1, Fj.wq2, Fj.tyN, Int.reduceEq, Int.reduceLT, Int.reduceLE, Int.reduceAdd, Int.reduceSub, Int.reduceMul, Int.reduceNeg, Int.reducePow, Int.reduceToNat, Int.reduceMod, Int.reduceDiv, Int.reduceNe, Nat.reduceEqDiff, Nat.reduceMul, borOk, dkAll, dkKept, nlD, nlAll, id, frz, freeE, outsE, pick, merE, wipeE, Nat.reduceAdd, Nat.reduceSub, Nat.reduceLeDiff, Nat.reduceLT, reduceCtorEq, if_true, if_false, eq_self, forall_const, Bool.false_and, frzT, String.reduceEq]
      exact leaf_ok hp hl h3 hd (by omega) (by have := cst_s d; omega)
    have hd2 : ¬ ((d + 1 + 1 : Nat) : Int) < 2 := by omega
    simp (config := {maxSteps := 1000000}) only [mf__law_any_condition, mb__law_any_condition, mb__law_any_condition_2, hm, hd2, Fj.wp0, Fj.wp1, Fj.wp2, Fj.wp3, Fj.wp4, Fj.wp5, Fj.wp6, Fj.wp7, Fj.wp8, Fj.wp9, Fj.wp10, Fj.wp11, Fj.wp12, Fj.wp13, Fj.wp14, Fj.wp15, Fj.wp16, Fj.wp17, Fj.wp18, Fj.wp19, Fj.wp20, Fj.wp21, Fj.wpz, Fj.wq0, Fj.wq1, Fj.wq2, Fj.tyN, Int.reduceEq, Int.reduceLT, Int.reduceLE, Int.reduceAdd, Int.reduceSub, Int.reduceMul, Int.reduceNeg, Int.reducePow, Int.reduceToNat, Int.reduceMod, Int.reduceDiv, Int.reduceNe, Nat.reduceEqDiff, Nat.reduceMul, borOk, dkAll, dkKept, nlD, nlAll, id, frz, freeE, outsE, pick, merE, wipeE, Nat.reduceAdd, Nat.reduceSub, Nat.reduceLeDiff, Nat.reduceLT, reduceCtorEq, if_true, if_false, eq_self, forall_const, Bool.false_and, frzT, String.reduceEq]
    refine (draw_ok n l m t 4 hd (by omega) (by decide) (by decide)).mono ?_
    rintro _ _ ⟨r, l', m', t', o, rfl, r0, r1, rfl, g1⟩
    by_cases hr : r = 0
    · simp (config := {maxSteps := 1000000}) only [hr, Fj.wp0, Fj.wp1, Fj.wp2, Fj.wp3, Fj.wp4, Fj.wp5, Fj.wp6, Fj.wp7, Fj.wp8, Fj.wp9, Fj.wp10, Fj.wp11, Fj.wp12, Fj.wp13, Fj.wp14, Fj.wp15, Fj.wp16, Fj.wp17, Fj.wp18, Fj.wp19, Fj.wp20, Fj.wp21, Fj.wpz, Fj.wq0, Fj.wq1, Fj.wq2, Fj.tyN, Int.reduceEq, Int.reduceLT, Int.reduceLE, Int.reduceAdd, Int.reduceSub, Int.reduceMul, Int.reduceNeg, Int.reducePow, Int.reduceToNat, Int.reduceMod, Int.reduceDiv, Int.reduceNe, Nat.reduceEqDiff, Nat.reduceMul, borOk, dkAll, dkKept, nlD, nlAll, id, frz, freeE, outsE, pick, merE, wipeE, Nat.reduceAdd, Nat.reduceSub, Nat.reduceLeDiff, Nat.reduceLT, reduceCtorEq, if_true, if_false, eq_self, forall_const, Bool.false_and, frzT, String.reduceEq]
      exact leaf_ok (N := n + cst (d + 1)) hp hl h3 g1 (by omega) (by have := cst_s d; omega)
    obtain ⟨f, rfl⟩ : ∃ g, f = g + 1 := ⟨f - 1, by omega⟩
    have e1 : ((d + 1 + 1 : Nat) : Int) - 1 = ((d + 1 : Nat) : Int) := by omega
    by_cases hm2 : (most : Int) = 2
    · simp (config := {maxSteps := 1000000}) only [hr, hm2, mb__law_any_condition_3, e1, dd__law_any_condition, Fj.wp0, Fj.wp1, Fj.wp2, Fj.wp3, Fj.wp4, Fj.wp5, Fj.wp6, Fj.wp7, Fj.wp8, Fj.wp9, Fj.wp10, Fj.wp11, Fj.wp12, Fj.wp13, Fj.wp14, Fj.wp15, Fj.wp16, Fj.wp17, Fj.wp18, Fj.wp19, Fj.wp20, Fj.wp21, Fj.wpz, Fj.wq0, Fj.wq1, Fj.wq2, Fj.tyN, Int.reduceEq, Int.reduceLT, Int.reduceLE, Int.reduceAdd, Int.reduceSub, Int.reduceMul, Int.reduceNeg, Int.reducePow, Int.reduceToNat, Int.reduceMod, Int.reduceDiv, Int.reduceNe, Nat.reduceEqDiff, Nat.reduceMul, borOk, dkAll, dkKept, nlD, nlAll, id, frz, freeE, outsE, pick, merE, wipeE, Nat.reduceAdd, Nat.reduceSub, Nat.reduceLeDiff, Nat.reduceLT, reduceCtorEq, if_true, if_false, eq_self, forall_const, Bool.false_and, frzT, String.reduceEq]
      refine (ih f 1 (by omega) (by omega) (by decide) (by decide) (n + 1) l' m' t' g1 (by omega)).mono ?_
      rintro _ _ ⟨⟨c, rfl, c1, c2, c3⟩, l2, m2, t2, o, rfl, g2⟩
      simp (config := {maxSteps := 1000000}) only [Fj.wp0, Fj.wp1, Fj.wp2, Fj.wp3, Fj.wp4, Fj.wp5, Fj.wp6, Fj.wp7, Fj.wp8, Fj.wp9, Fj.wp10, Fj.wp11, Fj.wp12, Fj.wp13, Fj.wp14, Fj.wp15, Fj.wp16, Fj.wp17, Fj.wp18, Fj.wp19, Fj.wp20, Fj.wp21, Fj.wpz, Fj.wq0, Fj.wq1, Fj.wq2, Fj.tyN, Int.reduceEq, Int.reduceLT, Int.reduceLE, Int.reduceAdd, Int.reduceSub, Int.reduceMul, Int.reduceNeg, Int.reducePow, Int.reduceToNat, Int.reduceMod, Int.reduceDiv, Int.reduceNe, Nat.reduceEqDiff, Nat.reduceMul, borOk, dkAll, dkKept, nlD, nlAll, id, frz, freeE, outsE, pick, merE, wipeE, Nat.reduceAdd, Nat.reduceSub, Nat.reduceLeDiff, Nat.reduceLT, reduceCtorEq, if_true, if_false, eq_self, forall_const, Bool.false_and, frzT, String.reduceEq]
      exact ⟨⟨.no c, rfl, by unfold Co.siz; omega, by unfold Co.dep; omega, c3⟩, _, _, _, _, rfl, dk_mono g2 (by have := cst_s d; omega)⟩
    simp (config := {maxSteps := 1000000}) only [hr, hm2, mb__law_any_condition_3, e1, Fj.wp0, Fj.wp1, Fj.wp2, Fj.wp3, Fj.wp4, Fj.wp5, Fj.wp6, Fj.wp7, Fj.wp8, Fj.wp9, Fj.wp10, Fj.wp11, Fj.wp12, Fj.wp13, Fj.wp14, Fj.wp15, Fj.wp16, Fj.wp17, Fj.wp18, Fj.wp19, Fj.wp20, Fj.wp21, Fj.wpz, Fj.wq0, Fj.wq1, Fj.wq2, Fj.tyN, Int.reduceEq, Int.reduceLT, Int.reduceLE, Int.reduceAdd, Int.reduceSub, Int.reduceMul, Int.reduceNeg, Int.reducePow, Int.reduceToNat, Int.reduceMod, Int.reduceDiv, Int.reduceNe, Nat.reduceEqDiff, Nat.reduceMul, borOk, dkAll, dkKept, nlD, nlAll, id, frz, freeE, outsE, pick, merE, wipeE, Nat.reduceAdd, Nat.reduceSub, Nat.reduceLeDiff, Nat.reduceLT, reduceCtorEq, if_true, if_false, eq_self, forall_const, Bool.false_and, frzT, String.reduceEq]
    refine (draw_ok (n + 1) l' m' t' 3 g1 (by omega) (by decide) (by decide)).mono ?_
    rintro _ _ ⟨r2, l2, m2, t2, o, rfl, s0, s1, rfl, g2⟩
    by_cases hr2 : r2 = 0
    · have e2 : (most : Int) - 1 = ((most - 1 : Nat) : Int) := by omega
      simp (config := {maxSteps := 1000000}) only [hr2, e1, e2, dd__law_any_condition, Fj.wp0, Fj.wp1, Fj.wp2, Fj.wp3, Fj.wp4, Fj.wp5, Fj.wp6, Fj.wp7, Fj.wp8, Fj.wp9, Fj.wp10, Fj.wp11, Fj.wp12, Fj.wp13, Fj.wp14, Fj.wp15, Fj.wp16, Fj.wp17, Fj.wp18, Fj.wp19, Fj.wp20, Fj.wp21, Fj.wpz, Fj.wq0, Fj.wq1, Fj.wq2, Fj.tyN, Int.reduceEq, Int.reduceLT, Int.reduceLE, Int.reduceAdd, Int.reduceSub, Int.reduceMul, Int.reduceNeg, Int.reducePow, Int.reduceToNat, Int.reduceMod, Int.reduceDiv, Int.reduceNe, Nat.reduceEqDiff, Nat.reduceMul, borOk, dkAll, dkKept, nlD, nlAll, id, frz, freeE, outsE, pick, merE, wipeE, Nat.reduceAdd, Nat.reduceSub, Nat.reduceLeDiff, Nat.reduceLT, reduceCtorEq, if_true, if_false, eq_self, forall_const, Bool.false_and, frzT, String.reduceEq]
      refine (ih f (most - 1) (by omega) (by omega) (by omega) (by omega) (n + 1 + 1) l2 m2 t2 g2 (by omega)).mono ?_
      rintro _ _ ⟨⟨c, rfl, c1, c2, c3⟩, l3, m3, t3, o, rfl, g3⟩
      simp (config := {maxSteps := 1000000}) only [Fj.wp0, Fj.wp1, Fj.wp2, Fj.wp3, Fj.wp4, Fj.wp5, Fj.wp6, Fj.wp7, Fj.wp8, Fj.wp9, Fj.wp10, Fj.wp11, Fj.wp12, Fj.wp13, Fj.wp14, Fj.wp15, Fj.wp16, Fj.wp17, Fj.wp18, Fj.wp19, Fj.wp20, Fj.wp21, Fj.wpz, Fj.wq0, Fj.wq1, Fj.wq2, Fj.tyN, Int.reduceEq, Int.reduceLT, Int.reduceLE, Int.reduceAdd, Int.reduceSub, Int.reduceMul, Int.reduceNeg, Int.reducePow, Int.reduceToNat, Int.reduceMod, Int.reduceDiv, Int.reduceNe, Nat.reduceEqDiff, Nat.reduceMul, borOk, dkAll, dkKept, nlD, nlAll, id, frz, freeE, outsE, pick, merE, wipeE, Nat.reduceAdd, Nat.reduceSub, Nat.reduceLeDiff, Nat.reduceLT, reduceCtorEq, if_true, if_false, eq_self, forall_const, Bool.false_and, frzT, String.reduceEq]
      exact ⟨⟨.no c, rfl, by unfold Co.siz; omega, by unfold Co.dep; omega, c3⟩, _, _, _, _, rfl, dk_mono g3 (by have := cst_s d; omega)⟩
    simp (config := {maxSteps := 1000000}) only [hr2, Fj.wp0, Fj.wp1, Fj.wp2, Fj.wp3, Fj.wp4, Fj.wp5, Fj.wp6, Fj.wp7, Fj.wp8, Fj.wp9, Fj.wp10, Fj.wp11, Fj.wp12, Fj.wp13, Fj.wp14, Fj.wp15, Fj.wp16, Fj.wp17, Fj.wp18, Fj.wp19, Fj.wp20, Fj.wp21, Fj.wpz, Fj.wq0, Fj.wq1, Fj.wq2, Fj.tyN, Int.reduceEq, Int.reduceLT, Int.reduceLE, Int.reduceAdd, Int.reduceSub, Int.reduceMul, Int.reduceNeg, Int.reducePow, Int.reduceToNat, Int.reduceMod, Int.reduceDiv, Int.reduceNe, Nat.reduceEqDiff, Nat.reduceMul, borOk, dkAll, dkKept, nlD, nlAll, id, frz, freeE, outsE, pick, merE, wipeE, Nat.reduceAdd, Nat.reduceSub, Nat.reduceLeDiff, Nat.reduceLT, reduceCtorEq, if_true, if_false, eq_self, forall_const, Bool.false_and, frzT, String.reduceEq]
    refine (draw_ok (n + 1 + 1) l2 m2 t2 ((most : Int) - 2) g2 (by omega) (by omega) (by omega)).mono ?_
    rintro _ _ ⟨r3, l3, m3, t3, o, rfl, u0, u1, rfl, g3⟩
    obtain ⟨k, ek⟩ : ∃ k : Nat, (1 : Int) + r3 = (k : Int) := ⟨(1 + r3).toNat, by omega⟩
    simp (config := {maxSteps := 1000000}) only [ek, e1, dd__law_any_condition, Fj.wp0, Fj.wp1, Fj.wp2, Fj.wp3, Fj.wp4, Fj.wp5, Fj.wp6, Fj.wp7, Fj.wp8, Fj.wp9, Fj.wp10, Fj.wp11, Fj.wp12, Fj.wp13, Fj.wp14, Fj.wp15, Fj.wp16, Fj.wp17, Fj.wp18, Fj.wp19, Fj.wp20, Fj.wp21, Fj.wpz, Fj.wq0, Fj.wq1, Fj.wq2, Fj.tyN, Int.reduceEq, Int.reduceLT, Int.reduceLE, Int.reduceAdd, Int.reduceSub, Int.reduceMul, Int.reduceNeg, Int.reducePow, Int.reduceToNat, Int.reduceMod, Int.reduceDiv, Int.reduceNe, Nat.reduceEqDiff, Nat.reduceMul, borOk, dkAll, dkKept, nlD, nlAll, id, frz, freeE, outsE, pick, merE, wipeE, Nat.reduceAdd, Nat.reduceSub, Nat.reduceLeDiff, Nat.reduceLT, reduceCtorEq, if_true, if_false, eq_self, forall_const, Bool.false_and, frzT, String.reduceEq]
    refine (ih f k (by omega) (by omega) (by omega) (by omega) (n + 1 + 1 + 1) l3 m3 t3 g3 (by omega)).mono ?_
    rintro _ _ ⟨⟨c, rfl, c1, c2, c3⟩, l4, m4, t4, o, rfl, g4⟩
    simp (config := {maxSteps := 1000000}) only [Fj.wp0, Fj.wp1, Fj.wp2, Fj.wp3, Fj.wp4, Fj.wp5, Fj.wp6, Fj.wp7, Fj.wp8, Fj.wp9, Fj.wp10, Fj.wp11, Fj.wp12, Fj.wp13, Fj.wp14, Fj.wp15, Fj.wp16, Fj.wp17, Fj.wp18, Fj.wp19, Fj.wp20, Fj.wp21, Fj.wpz, Fj.wq0, Fj.wq1, Fj.wq2, Fj.tyN, Int.reduceEq, Int.reduceLT, Int.reduceLE, Int.reduceAdd, Int.reduceSub, Int.reduceMul, Int.reduceNeg, Int.reducePow, Int.reduceToNat, Int.reduceMod, Int.reduceDiv, Int.reduceNe, Nat.reduceEqDiff, Nat.reduceMul, borOk, dkAll, dkKept, nlD, nlAll, id, frz, freeE, outsE, pick, merE, wipeE, Nat.reduceAdd, Nat.reduceSub, Nat.reduceLeDiff, Nat.reduceLT, reduceCtorEq, if_true, if_false, eq_self, forall_const, Bool.false_and, frzT, String.reduceEq]
    refine (pick_ok _ l4 m4 t4 _ g4 (by omega) (by simp) (by simp)).mono ?_
    rintro _ _ ⟨d', l5, m5, t5, o, hmm, rfl, rfl, g5⟩
    have e3 : (most : Int) - 1 - (k : Int) = ((most - 1 - k : Nat) : Int) := by omega
    simp (config := {maxSteps := 1000000}) only [e1, e3, dd__law_any_condition, Fj.wp0, Fj.wp1, Fj.wp2, Fj.wp3, Fj.wp4, Fj.wp5, Fj.wp6, Fj.wp7, Fj.wp8, Fj.wp9, Fj.wp10, Fj.wp11, Fj.wp12, Fj.wp13, Fj.wp14, Fj.wp15, Fj.wp16, Fj.wp17, Fj.wp18, Fj.wp19, Fj.wp20, Fj.wp21, Fj.wpz, Fj.wq0, Fj.wq1, Fj.wq2, Fj.tyN, Int.reduceEq, Int.reduceLT, Int.reduceLE, Int.reduceAdd, Int.reduceSub, Int.reduceMul, Int.reduceNeg, Int.reducePow, Int.reduceToNat, Int.reduceMod, Int.reduceDiv, Int.reduceNe, Nat.reduceEqDiff, Nat.reduceMul, borOk, dkAll, dkKept, nlD, nlAll, id, frz, freeE, outsE, pick, merE, wipeE, Nat.reduceAdd, Nat.reduceSub, Nat.reduceLeDiff, Nat.reduceLT, reduceCtorEq, if_true, if_false, eq_self, forall_const, Bool.false_and, frzT, String.reduceEq]
    refine (ih f (most - 1 - k) (by omega) (by omega) (by omega) (by omega) _ l5 m5 t5 g5 (by omega)).mono ?_
    rintro _ _ ⟨⟨c', rfl, c1', c2', c3'⟩, l6, m6, t6, o, rfl, g6⟩
    have hok : ∀ p ∈ c.prs ++ c'.prs, okQ p := fun p hp => (List.mem_append.mp hp).elim (c3 p) (c3' p)
    simp only [List.mem_cons, List.not_mem_nil, or_false] at hmm
    rcases hmm with rfl | rfl
    · simp (config := {maxSteps := 1000000}) only [Fj.wp0, Fj.wp1, Fj.wp2, Fj.wp3, Fj.wp4, Fj.wp5, Fj.wp6, Fj.wp7, Fj.wp8, Fj.wp9, Fj.wp10, Fj.wp11, Fj.wp12, Fj.wp13, Fj.wp14, Fj.wp15, Fj.wp16, Fj.wp17, Fj.wp18, Fj.wp19, Fj.wp20, Fj.wp21, Fj.wpz, Fj.wq0, Fj.wq1, Fj.wq2, Fj.tyN, Int.reduceEq, Int.reduceLT, Int.reduceLE, Int.reduceAdd, Int.reduceSub, Int.reduceMul, Int.reduceNeg, Int.reducePow, Int.reduceToNat, Int.reduceMod, Int.reduceDiv, Int.reduceNe, Nat.reduceEqDiff, Nat.reduceMul, borOk, dkAll, dkKept, nlD, nlAll, id, frz, freeE, outsE, pick, merE, wipeE, Nat.reduceAdd, Nat.reduceSub, Nat.reduceLeDiff, Nat.reduceLT, reduceCtorEq, if_true, if_false, eq_self, forall_const, Bool.false_and, frzT, String.reduceEq]
      exact ⟨⟨.bo c c', rfl, by unfold Co.siz; omega, by unfold Co.dep; omega, hok⟩, _, _, _, _, rfl, dk_mono g6 (by have := cst_s d; omega)⟩
    · simp (config := {maxSteps := 1000000}) only [Fj.wp0, Fj.wp1, Fj.wp2, Fj.wp3, Fj.wp4, Fj.wp5, Fj.wp6, Fj.wp7, Fj.wp8, Fj.wp9, Fj.wp10, Fj.wp11, Fj.wp12, Fj.wp13, Fj.wp14, Fj.wp15, Fj.wp16, Fj.wp17, Fj.wp18, Fj.wp19, Fj.wp20, Fj.wp21, Fj.wpz, Fj.wq0, Fj.wq1, Fj.wq2, Fj.tyN, Int.reduceEq, Int.reduceLT, Int.reduceLE, Int.reduceAdd, Int.reduceSub, Int.reduceMul, Int.reduceNeg, Int.reducePow, Int.reduceToNat, Int.reduceMod, Int.reduceDiv, Int.reduceNe, Nat.reduceEqDiff, Nat.reduceMul, borOk, dkAll, dkKept, nlD, nlAll, id, frz, freeE, outsE, pick, merE, wipeE, Nat.reduceAdd, Nat.reduceSub, Nat.reduceLeDiff, Nat.reduceLT, reduceCtorEq, if_true, if_false, eq_self, forall_const, Bool.false_and, frzT, String.reduceEq]
      exact ⟨⟨.ei c c', rfl, by unfold Co.siz; omega, by unfold Co.dep; omega, hok⟩, _, _, _, _, rfl, dk_mono g6 (by have := cst_s d; omega)⟩
end L_k16

set_option maxRecDepth 100000
set_option maxHeartbeats 0
set_option linter.all false
set_option linter.unusedSimpArgs false
namespace L_k16
open PySem PySem.Spec PyProof.Rows L2 Fj
/-! drawn targets -/
def tsD (ps : List (Str × Str)) : List (Str × PyData) := ps.map fun p => (p.1, .str p.2)
theorem tsD_len (ps : List (Str × Str)) : (tsD ps).length = ps.length := List.length_map ..
def putP : List (Str × Str) → Str → Str → List (Str × Str)
  | [], k, v => [(k, v)]
  | p :: r, k, v => if p.1 = k then (k, v) :: r else p :: putP r k v
theorem putS_ts (k v : Str) : ∀ ps : List (Str × Str), putS (tsD ps) k (.str v) = tsD (putP ps k v)
  | [] => rfl
  | p :: r => by
    have ih := putS_ts k v r
    show putS ((p.1, .str p.2) :: tsD r) k (.str v) = _
    unfold putS putP
    by_cases h : p.1 = k
    · simp only [h, if_true]
      rfl
    · simp only [h, if_false, ih]
      rfl
theorem putP_keys (k v : Str) : ∀ ps : List (Str × Str), ∀ x, x ∈ (putP ps k v).map (·.1) ↔ x = k ∨ x ∈ ps.map (·.1)
  | [], x => by simp [putP]
  | p :: r, x => by
    unfold putP
    by_cases h : p.1 = k
    · simp [h]
    · simp only [h, if_false, List.map_cons, List.mem_cons, putP_keys k v r x]
      exact ⟨fun z => z.elim (fun e => .inr (.inl e)) fun z => z.elim .inl fun z => .inr (.inr z), fun z => z.elim (fun e => .inr (.inl e)) fun z => z.elim .inl fun z => .inr (.inr z)⟩
theorem putP_nd {k v : Str} : ∀ {ps : List (Str × Str)}, (ps.map (·.1)).Nodup → ((putP ps k v).map (·.1)).Nodup
  | [], _ => by simp [putP]
  | p :: r, h => by
    have h2 := List.nodup_cons.mp h
    unfold putP
    by_cases e : p.1 = k
    · simp only [e, if_true]
      rw [List.map_cons]
      exact List.nodup_cons.mpr ⟨by rw [← e]; exact h2.1, h2.2⟩
    · simp only [e, if_false]
      rw [List.map_cons]
      exact List.nodup_cons.mpr ⟨fun z => ((putP_keys k v r p.1).mp z).elim e h2.1, putP_nd h2.2⟩
theorem putP_len (k v : Str) : ∀ ps : List (Str × Str), (putP ps k v).length ≤ ps.length + 1
  | [] => Nat.le_refl _
  | p :: r => by
    have := putP_len k v r
    unfold putP
    split
    · simp
    · simp only [List.length_cons]
      omega
theorem putP_ok {k v : Str} (h : okQ (k, v)) : ∀ {ps : List (Str × Str)}, (∀ p ∈ ps, okQ p) → ∀ p ∈ putP ps k v, okQ p
  | [], _, p, hp => by rw [List.mem_singleton.mp hp]; exact h
  | q :: r, hq, p, hp => by
    unfold putP at hp
    split at hp
    · exact (List.mem_cons.mp hp).elim (fun e => e ▸ h) fun z => hq p (List.mem_cons_of_mem _ z)
    · exact (List.mem_cons.mp hp).elim (fun e => e ▸ hq q (List.mem_cons_self ..)) fun z => putP_ok h (fun x hx => hq x (List.mem_cons_of_mem _ hx)) p z
theorem srtP_tg {ps : List (Str × Str)} (h : ∀ p ∈ ps, okQ p) (nd : (ps.map (·.1)).Nodup) (hl : ps.length ≤ 1000) : Tg (srtP ps) := by
  have hp := srtP_perm ps
  have nd2 : ((srtP ps).map (·.1)).Nodup := (hp.map (·.1)).nodup_iff.mpr nd
  refine ⟨fun p hm => h p (hp.mem_iff.mp hm), ?_, by rw [hp.length_eq]; exact hl⟩
  unfold upP
  have nd3 : (srtP ps).Pairwise fun p q => p.1 ≠ q.1 := List.pairwise_map.mp nd2
  exact ((srtP_up ps).and nd3).imp fun {p q} ⟨h1, h2⟩ => Bool.of_not_eq_false fun z => h2 (ltT_tot z h1)
theorem pr_ts (ps : List (Str × Str)) : (tsD ps).map (fun p => PyData.tuple [.str p.1, p.2]) = ps.map kvD := by
  unfold tsD
  rw [List.map_map]
  rfl
theorem target_ok {ps : List (Str × Str)} (hp : ∀ p ∈ ps, okQ p) (hl : ps.length ≤ 8) : Dk 11000 mf__law_any_target [.val (.list (ps.map kvD))] fun e => ∃ t, e = .val (tgD t) ∧ Tg t ∧ t.length ≤ 12 := by
  intro n l m t hd hn
  simp (config := {maxSteps := 1000000}) only [mf__law_any_target, mb__law_any_target, mb__law_any_target_3, Fj.wp0, Fj.wp1, Fj.wp2, Fj.wp3, Fj.wp4, Fj.wp5, Fj.wp6, Fj.wp7, Fj.wp8, Fj.wp9, Fj.wp10, Fj.wp11, Fj.wp12, Fj.wp13, Fj.wp14, Fj.wp15, Fj.wp16, Fj.wp17, Fj.wp18, Fj.wp19, Fj.wp20, Fj.wp21, Fj.wpz, Fj.wq0, Fj.wq1, Fj.wq2, Fj.tyN, Int.reduceEq, Int.reduceLT, Int.reduceLE, Int.reduceAdd, Int.reduceSub, Int.reduceMul, Int.reduceNeg, Int.reducePow, Int.reduceToNat, Int.reduceMod, Int.reduceDiv, Int.reduceNe, Nat.reduceEqDiff, Nat.reduceMul, borOk, dkAll, dkKept, nlD, nlAll, id, frz, freeE, outsE, pick, merE, wipeE, Nat.reduceAdd, Nat.reduceSub, Nat.reduceLeDiff, Nat.reduceLT, reduceCtorEq, if_true, if_false, eq_self, forall_const, Bool.false_and, frzT, String.reduceEq]
  refine (mixed_ok (ps.map kvD) (by rw [List.length_map]; omega) n l m t hd (by omega)).mono ?_
  rintro _ _ ⟨⟨ds, rfl, d1, d2⟩, l1, m1, t1, o, rfl, h1⟩
  simp (config := {maxSteps := 1000000}) only [Fj.wp0, Fj.wp1, Fj.wp2, Fj.wp3, Fj.wp4, Fj.wp5, Fj.wp6, Fj.wp7, Fj.wp8, Fj.wp9, Fj.wp10, Fj.wp11, Fj.wp12, Fj.wp13, Fj.wp14, Fj.wp15, Fj.wp16, Fj.wp17, Fj.wp18, Fj.wp19, Fj.wp20, Fj.wp21, Fj.wpz, Fj.wq0, Fj.wq1, Fj.wq2, Fj.tyN, Int.reduceEq, Int.reduceLT, Int.reduceLE, Int.reduceAdd, Int.reduceSub, Int.reduceMul, Int.reduceNeg, Int.reducePow, Int.reduceToNat, Int.reduceMod, Int.reduceDiv, Int.reduceNe, Nat.reduceEqDiff, Nat.reduceMul, borOk, dkAll, dkKept, nlD, nlAll, id, frz, freeE, outsE, pick, merE, wipeE, Nat.reduceAdd, Nat.reduceSub, Nat.reduceLeDiff, Nat.reduceLT, reduceCtorEq, if_true, if_false, eq_self, forall_const, Bool.false_and, frzT, String.reduceEq]
  rw [List.length_map] at d1
  refine w_forL (fun xs ρ => ∃ done ts l' m' t' n' e3 e4, ds = done ++ xs ∧ ts.length ≤ done.length ∧ (∀ p ∈ ts, okQ p) ∧ (ts.map (·.1)).Nodup ∧ n' + 30 * xs.length ≤ n + 10000 + 30 * ds.length ∧ DkOk n' l' m' t' ∧ Pl e3 ∧ Pl e4 ∧ ρ = [.own false (.deck 1 l' m' t'), .val (.list (ps.map kvD)), .own true (.tr (dTr (tsD ts))), e3, e4]) ?_ ?_ _ _ ⟨[], [], l1, m1, t1, n + 10000, _, _, rfl, Nat.le_refl _, fun p h => (List.not_mem_nil h).elim, List.nodup_nil, Nat.le_refl _, h1, .no, .no, rfl⟩
  · rintro x xs ρ ⟨done, ts, l', m', t', n', e3, e4, g1, g2, g3, g4, g5, g6, p3, p4, rfl⟩
    obtain ⟨p, hpm, rfl⟩ := List.mem_map.mp (d2 x (by rw [g1]; simp))
    rw [List.length_cons] at g5
    have hlen := congrArg List.length g1
    rw [List.length_append, List.length_cons] at hlen
    simp (config := {maxSteps := 1000000}) only [p3.all, p4.all, mb__law_any_target_2, Fj.wp0, Fj.wp1, Fj.wp2, Fj.wp3, Fj.wp4, Fj.wp5, Fj.wp6, Fj.wp7, Fj.wp8, Fj.wp9, Fj.wp10, Fj.wp11, Fj.wp12, Fj.wp13, Fj.wp14, Fj.wp15, Fj.wp16, Fj.wp17, Fj.wp18, Fj.wp19, Fj.wp20, Fj.wp21, Fj.wpz, Fj.wq0, Fj.wq1, Fj.wq2, Fj.tyN, Int.reduceEq, Int.reduceLT, Int.reduceLE, Int.reduceAdd, Int.reduceSub, Int.reduceMul, Int.reduceNeg, Int.reducePow, Int.reduceToNat, Int.reduceMod, Int.reduceDiv, Int.reduceNe, Nat.reduceEqDiff, Nat.reduceMul, borOk, dkAll, dkKept, nlD, nlAll, id, frz, freeE, outsE, pick, merE, wipeE, Nat.reduceAdd, Nat.reduceSub, Nat.reduceLeDiff, Nat.reduceLT, reduceCtorEq, if_true, if_false, eq_self, forall_const, Bool.false_and, frzT, String.reduceEq]
    refine (draw_ok n' l' m' t' 3 g6 (by omega) (by decide) (by decide)).mono ?_
    rintro _ _ ⟨r, l2, m2, t2, o, rfl, r0, r1, rfl, h2⟩
    by_cases hr : r > 0
    · simp (config := {maxSteps := 1000000}) only [hr, mb__law_any_target_1, Fj.wp0, Fj.wp1, Fj.wp2, Fj.wp3, Fj.wp4, Fj.wp5, Fj.wp6, Fj.wp7, Fj.wp8, Fj.wp9, Fj.wp10, Fj.wp11, Fj.wp12, Fj.wp13, Fj.wp14, Fj.wp15, Fj.wp16, Fj.wp17, Fj.wp18, Fj.wp19, Fj.wp20, Fj.wp21, Fj.wpz, Fj.wq0, Fj.wq1, Fj.wq2, Fj.tyN, Int.reduceEq, Int.reduceLT, Int.reduceLE, Int.reduceAdd, Int.reduceSub, Int.reduceMul, Int.reduceNeg, Int.reducePow, Int.reduceToNat, Int.reduceMod, Int.reduceDiv, Int.reduceNe, Nat.reduceEqDiff, Nat.reduceMul, borOk, dkAll, dkKept, nlD, nlAll, id, frz, freeE, outsE, pick, merE, wipeE, Nat.reduceAdd, Nat.reduceSub, Nat.reduceLeDiff, Nat.reduceLT, reduceCtorEq, if_true, if_false, eq_self, forall_const, Bool.false_and, frzT, String.reduceEq]
      refine (draw_ok (n' + 1) l2 m2 t2 6 h2 (by omega) (by decide) (by decide)).mono ?_
      rintro _ _ ⟨r', l3, m3, t3, o, rfl, u0, u1, rfl, h3⟩
      have hpl := fun v => putP_len p.1 v ts
      have hpo := hp p hpm
      by_cases hr' : r' > 0
      · simp (config := {maxSteps := 1000000}) only [hr', List.length_map, tsD_len, putS_ts, Fj.wp0, Fj.wp1, Fj.wp2, Fj.wp3, Fj.wp4, Fj.wp5, Fj.wp6, Fj.wp7, Fj.wp8, Fj.wp9, Fj.wp10, Fj.wp11, Fj.wp12, Fj.wp13, Fj.wp14, Fj.wp15, Fj.wp16, Fj.wp17, Fj.wp18, Fj.wp19, Fj.wp20, Fj.wp21, Fj.wpz, Fj.wq0, Fj.wq1, Fj.wq2, Fj.tyN, Int.reduceEq, Int.reduceLT, Int.reduceLE, Int.reduceAdd, Int.reduceSub, Int.reduceMul, Int.reduceNeg, Int.reducePow, Int.reduceToNat, Int.reduceMod, Int.reduceDiv, Int.reduceNe, Nat.reduceEqDiff, Nat.reduceMul, borOk, dkAll, dkKept, nlD, nlAll, id, frz, freeE, outsE, pick, merE, wipeE, Nat.reduceAdd, Nat.reduceSub, Nat.reduceLeDiff, Nat.reduceLT, reduceCtorEq, if_true, if_false, eq_self, forall_const, Bool.false_and, frzT, String.reduceEq]
        have := hpl p.2
        exact ⟨by omega, done ++ [kvD p], putP ts p.1 p.2, l3, m3, t3, n' + 1 + 1, _, _, by rw [g1, List.append_assoc]; rfl, by rw [List.length_append, List.length_singleton]; omega, putP_ok hpo g3, putP_nd g4, by omega, h3, .val, .val, rfl⟩
      · simp (config := {maxSteps := 1000000}) only [hr', Fj.wp0, Fj.wp1, Fj.wp2, Fj.wp3, Fj.wp4, Fj.wp5, Fj.wp6, Fj.wp7, Fj.wp8, Fj.wp9, Fj.wp10, Fj.wp11, Fj.wp12, Fj.wp13, Fj.wp14, Fj.wp15, Fj.wp16, Fj.wp17, Fj.wp18, Fj.wp19, Fj.wp20, Fj.wp21, Fj.wpz, Fj.wq0, Fj.wq1, Fj.wq2, Fj.tyN, Int.reduceEq, Int.reduceLT, Int.reduceLE, Int.reduceAdd, Int.reduceSub, Int.reduceMul, Int.reduceNeg, Int.reducePow, Int.reduceToNat, Int.reduceMod, Int.reduceDiv, Int.reduceNe, Nat.reduceEqDiff, Nat.reduceMul, borOk, dkAll, dkKept, nlD, nlAll, id, frz, freeE, outsE, pick, merE, wipeE, Nat.reduceAdd, Nat.reduceSub, Nat.reduceLeDiff, Nat.reduceLT, reduceCtorEq, if_true, if_false, eq_self, forall_const, Bool.false_and, frzT, String.reduceEq]
        refine (word_ok _ l3 m3 t3 h3 (by omega)).mono ?_
        rintro _ _ ⟨⟨x, hx, rfl⟩, l4, m4, t4, o, rfl, h4⟩
        simp (config := {maxSteps := 1000000}) only [List.length_map, tsD_len, putS_ts, Fj.wp0, Fj.wp1, Fj.wp2, Fj.wp3, Fj.wp4, Fj.wp5, Fj.wp6, Fj.wp7, Fj.wp8, Fj.wp9, Fj.wp10, Fj.wp11, Fj.wp12, Fj.wp13, Fj.wp14, Fj.wp15, Fj.wp16, Fj.wp17, Fj.wp18, Fj.wp19, Fj.wp20, Fj.wp21, Fj.wpz, Fj.wq0, Fj.wq1, Fj.wq2, Fj.tyN, Int.reduceEq, Int.reduceLT, Int.reduceLE, Int.reduceAdd, Int.reduceSub, Int.reduceMul, Int.reduceNeg, Int.reducePow, Int.reduceToNat, Int.reduceMod, Int.reduceDiv, Int.reduceNe, Nat.reduceEqDiff, Nat.reduceMul, borOk, dkAll, dkKept, nlD, nlAll, id, frz, freeE, outsE, pick, merE, wipeE, Nat.reduceAdd, Nat.reduceSub, Nat.reduceLeDiff, Nat.reduceLT, reduceCtorEq, if_true, if_false, eq_self, forall_const, Bool.false_and, frzT, String.reduceEq]
        have := hpl x
        exact ⟨by omega, done ++ [kvD p], putP ts p.1 x, l4, m4, t4, n' + 1 + 1 + 20, _, _, by rw [g1, List.append_assoc]; rfl, by rw [List.length_append, List.length_singleton]; omega, putP_ok (show okQ (p.1, x) from ⟨hpo.1, hx⟩) g3, putP_nd g4, by omega, h4, .val, .val, rfl⟩
    · simp (config := {maxSteps := 1000000}) only [hr, Fj.wp0, Fj.wp1, Fj.wp2, Fj.wp3, Fj.wp4, Fj.wp5, Fj.wp6, Fj.wp7, Fj.wp8, Fj.wp9, Fj.wp10, Fj.wp11, Fj.wp12, Fj.wp13, Fj.wp14, Fj.wp15, Fj.wp16, Fj.wp17, Fj.wp18, Fj.wp19, Fj.wp20, Fj.wp21, Fj.wpz, Fj.wq0, Fj.wq1, Fj.wq2, Fj.tyN, Int.reduceEq, Int.reduceLT, Int.reduceLE, Int.reduceAdd, Int.reduceSub, Int.reduceMul, Int.reduceNeg, Int.reducePow, Int.reduceToNat, Int.reduceMod, Int.reduceDiv, Int.reduceNe, Nat.reduceEqDiff, Nat.reduceMul, borOk, dkAll, dkKept, nlD, nlAll, id, frz, freeE, outsE, pick, merE, wipeE, Nat.reduceAdd, Nat.reduceSub, Nat.reduceLeDiff, Nat.reduceLT, reduceCtorEq, if_true, if_false, eq_self, forall_const, Bool.false_and, frzT, String.reduceEq]
      exact ⟨done ++ [kvD p], ts, l2, m2, t2, n' + 1, _, _, by rw [g1, List.append_assoc]; rfl, by rw [List.length_append, List.length_singleton]; omega, g3, g4, by omega, h2, .val, .val, rfl⟩
  · rintro ρ ⟨done, ts, l', m', t', n', e3, e4, g1, g2, g3, g4, g5, g6, p3, p4, rfl⟩
    rw [List.append_nil] at g1
    rw [← g1] at g2
    have g5 : n' ≤ n + 10000 + 30 * ds.length := g5
    simp (config := {maxSteps := 1000000}) only [p3.all, p4.all, mb__law_any_target_4, Fj.wp0, Fj.wp1, Fj.wp2, Fj.wp3, Fj.wp4, Fj.wp5, Fj.wp6, Fj.wp7, Fj.wp8, Fj.wp9, Fj.wp10, Fj.wp11, Fj.wp12, Fj.wp13, Fj.wp14, Fj.wp15, Fj.wp16, Fj.wp17, Fj.wp18, Fj.wp19, Fj.wp20, Fj.wp21, Fj.wpz, Fj.wq0, Fj.wq1, Fj.wq2, Fj.tyN, Int.reduceEq, Int.reduceLT, Int.reduceLE, Int.reduceAdd, Int.reduceSub, Int.reduceMul, Int.reduceNeg, Int.reducePow, Int.reduceToNat, Int.reduceMod, Int.reduceDiv, Int.reduceNe, Nat.reduceEqDiff, Nat.reduceMul, borOk, dkAll, dkKept, nlD, nlAll, id, frz, freeE, outsE, pick, merE, wipeE, Nat.reduceAdd, Nat.reduceSub, Nat.reduceLeDiff, Nat.reduceLT, reduceCtorEq, if_true, if_false, eq_self, forall_const, Bool.false_and, frzT, String.reduceEq]
    refine (draw_ok n' l' m' t' 4 g6 (by omega) (by decide) (by decide)).mono ?_
    rintro _ _ ⟨r, l2, m2, t2, o, rfl, r0, r1, rfl, h2⟩
    by_cases hr : r = 0
    · simp (config := {maxSteps := 1000000}) only [hr, Fj.wp0, Fj.wp1, Fj.wp2, Fj.wp3, Fj.wp4, Fj.wp5, Fj.wp6, Fj.wp7, Fj.wp8, Fj.wp9, Fj.wp10, Fj.wp11, Fj.wp12, Fj.wp13, Fj.wp14, Fj.wp15, Fj.wp16, Fj.wp17, Fj.wp18, Fj.wp19, Fj.wp20, Fj.wp21, Fj.wpz, Fj.wq0, Fj.wq1, Fj.wq2, Fj.tyN, Int.reduceEq, Int.reduceLT, Int.reduceLE, Int.reduceAdd, Int.reduceSub, Int.reduceMul, Int.reduceNeg, Int.reducePow, Int.reduceToNat, Int.reduceMod, Int.reduceDiv, Int.reduceNe, Nat.reduceEqDiff, Nat.reduceMul, borOk, dkAll, dkKept, nlD, nlAll, id, frz, freeE, outsE, pick, merE, wipeE, Nat.reduceAdd, Nat.reduceSub, Nat.reduceLeDiff, Nat.reduceLT, reduceCtorEq, if_true, if_false, eq_self, forall_const, Bool.false_and, frzT, String.reduceEq]
      refine (word_ok _ l2 m2 t2 h2 (by omega)).mono ?_
      rintro _ _ ⟨⟨x, hx, rfl⟩, l3, m3, t3, o, rfl, h3⟩
      simp (config := {maxSteps := 1000000}) only [Fj.wp0, Fj.wp1, Fj.wp2, Fj.wp3, Fj.wp4, Fj.wp5, Fj.wp6, Fj.wp7, Fj.wp8, Fj.wp9, Fj.wp10, Fj.wp11, Fj.wp12, Fj.wp13, Fj.wp14, Fj.wp15, Fj.wp16, Fj.wp17, Fj.wp18, Fj.wp19, Fj.wp20, Fj.wp21, Fj.wpz, Fj.wq0, Fj.wq1, Fj.wq2, Fj.tyN, Int.reduceEq, Int.reduceLT, Int.reduceLE, Int.reduceAdd, Int.reduceSub, Int.reduceMul, Int.reduceNeg, Int.reducePow, Int.reduceToNat, Int.reduceMod, Int.reduceDiv, Int.reduceNe, Nat.reduceEqDiff, Nat.reduceMul, borOk, dkAll, dkKept, nlD, nlAll, id, frz, freeE, outsE, pick, merE, wipeE, Nat.reduceAdd, Nat.reduceSub, Nat.reduceLeDiff, Nat.reduceLT, reduceCtorEq, if_true, if_false, eq_self, forall_const, Bool.false_and, frzT, String.reduceEq]
      refine (word_ok _ l3 m3 t3 h3 (by omega)).mono ?_
      rintro _ _ ⟨⟨y, hy, rfl⟩, l4, m4, t4, o, rfl, h4⟩
      have hq := putP_ok (show okQ (y, x) from ⟨hy, hx⟩) g3
      have hlq := putP_len y x ts
      have hg := fun R => g_sbP (ps := putP ts y x) (fun p hp => (hq p hp).okP) (by omega) (R := R)
      simp (config := {maxSteps := 1000000}) only [List.length_map, tsD_len, putS_ts, pr_ts, hg, Fj.wp0, Fj.wp1, Fj.wp2, Fj.wp3, Fj.wp4, Fj.wp5, Fj.wp6, Fj.wp7, Fj.wp8, Fj.wp9, Fj.wp10, Fj.wp11, Fj.wp12, Fj.wp13, Fj.wp14, Fj.wp15, Fj.wp16, Fj.wp17, Fj.wp18, Fj.wp19, Fj.wp20, Fj.wp21, Fj.wpz, Fj.wq0, Fj.wq1, Fj.wq2, Fj.tyN, Int.reduceEq, Int.reduceLT, Int.reduceLE, Int.reduceAdd, Int.reduceSub, Int.reduceMul, Int.reduceNeg, Int.reducePow, Int.reduceToNat, Int.reduceMod, Int.reduceDiv, Int.reduceNe, Nat.reduceEqDiff, Nat.reduceMul, borOk, dkAll, dkKept, nlD, nlAll, id, frz, freeE, outsE, pick, merE, wipeE, Nat.reduceAdd, Nat.reduceSub, Nat.reduceLeDiff, Nat.reduceLT, reduceCtorEq, if_true, if_false, eq_self, forall_const, Bool.false_and, frzT, String.reduceEq]
      exact ⟨by omega, ⟨_, rfl, srtP_tg hq (putP_nd g4) (by omega), by rw [(srtP_perm _).length_eq]; omega⟩, _, _, _, _, rfl, dk_mono h4 (by omega)⟩
    · have hg := fun R => g_sbP (ps := ts) (fun p hp => (g3 p hp).okP) (by omega) (R := R)
      simp (config := {maxSteps := 1000000}) only [hr, pr_ts, hg, Fj.wp0, Fj.wp1, Fj.wp2, Fj.wp3, Fj.wp4, Fj.wp5, Fj.wp6, Fj.wp7, Fj.wp8, Fj.wp9, Fj.wp10, Fj.wp11, Fj.wp12, Fj.wp13, Fj.wp14, Fj.wp15, Fj.wp16, Fj.wp17, Fj.wp18, Fj.wp19, Fj.wp20, Fj.wp21, Fj.wpz, Fj.wq0, Fj.wq1, Fj.wq2, Fj.tyN, Int.reduceEq, Int.reduceLT, Int.reduceLE, Int.reduceAdd, Int.reduceSub, Int.reduceMul, Int.reduceNeg, Int.reducePow, Int.reduceToNat, Int.reduceMod, Int.reduceDiv, Int.reduceNe, Nat.reduceEqDiff, Nat.reduceMul, borOk, dkAll, dkKept, nlD, nlAll, id, frz, freeE, outsE, pick, merE, wipeE, Nat.reduceAdd, Nat.reduceSub, Nat.reduceLeDiff, Nat.reduceLT, reduceCtorEq, if_true, if_false, eq_self, forall_const, Bool.false_and, frzT, String.reduceEq]
      exact ⟨⟨_, rfl, srtP_tg g3 g4 (by omega), by rw [(srtP_perm _).length_eq]; omega⟩, _, _, _, _, rfl, dk_mono h2 (by omega)⟩
end L_k16

set_option maxRecDepth 100000
set_option maxHeartbeats 0
set_option linter.all false
set_option linter.unusedSimpArgs false
namespace L_k16
open PySem PySem.Spec PyProof.Rows L2 Fj
theorem hold_ext {t u : List (Str × Str)} : ∀ {c : Co}, (∀ p ∈ c.prs, p ∈ t ↔ p ∈ u) → c.hold t = c.hold u
  | .al, _ => rfl
  | .is k v, h => decide_eq_decide.mpr (h (k, v) (List.mem_singleton.mpr rfl))
  | .no c, h => congrArg not (hold_ext (c := c) h)
  | .bo c d, h => by
    show (c.hold t && d.hold t) = (c.hold u && d.hold u)
    rw [hold_ext fun p hp => h p (List.mem_append_left _ hp), hold_ext fun p hp => h p (List.mem_append_right _ hp)]
  | .ei c d, h => by
    show (c.hold t || d.hold t) = (c.hold u || d.hold u)
    rw [hold_ext fun p hp => h p (List.mem_append_left _ hp), hold_ext fun p hp => h p (List.mem_append_right _ hp)]
theorem repB (b : Bool) : (PyData.bool b).showable = true ∧ SeqAt.shaped (.bool b) = true ∧ (PyData.bool b).shown.length ≤ 100000 := by
  cases b <;> decide +kernel
theorem rep3 (a b c : Bool) : (PyData.tuple [.bool a, .bool b, .bool c]).showable = true ∧ SeqAt.shaped (.tuple [.bool a, .bool b, .bool c]) = true ∧ (PyData.tuple [.bool a, .bool b, .bool c]).shown.length ≤ 100000 := by
  cases a <;> cases b <;> cases c <;> decide +kernel
theorem Tg.nd {t : List (Str × Str)} (h : Tg t) : (t.map (·.1)).Nodup := by
  refine List.pairwise_map.mpr (h.up.imp fun {p q} z e => ?_)
  rw [e, ltT_irr] at z
  cases z
theorem keys_shaped {xs : List Str} (h : ∀ x ∈ xs, okW x) : SeqAt.shaped (.list (xs.map .str)) = true := by
  refine shaped_rowL fun d hd => ?_
  obtain ⟨x, hx, rfl⟩ := List.mem_map.mp hd
  exact ⟨by unfold PyData.canLay0; exact (h x hx).strOk, by unfold PyData.depth; decide⟩
theorem int_emod2 (i : Int) : True := trivial
def St (ns l : List Int) (m t : Int) (ts : List (List (Str × Str))) (c d : Co) (ρ : En) : Prop := ∃ e2 e3 e7 e8 e9 e10 e11 e12 e13 e14 e15 e16, Pl e2 ∧ Pl e3 ∧ Pl e7 ∧ Pl e8 ∧ Pl e9 ∧ Pl e10 ∧ Pl e11 ∧ Pl e12 ∧ Pl e13 ∧ Pl e14 ∧ Pl e15 ∧ Pl e16 ∧ ρ = [.scr ns, .own true (.deck 1 l m t), e2, e3, .val (.list (ts.map tgD)), .val c.D, .val d.D, e7, e8, e9, e10, e11, e12, e13, e14, e15, e16]
theorem tests_ok {c d : Co} (hc : c.dep ≤ 4) (hd : d.dep ≤ 4) (okc : c.ok) (okd : d.ok) {ts : List (List (Str × Str))} (hts : ∀ t ∈ ts, Tg t) {ns l : List Int} {m t : Int} {ρ : En} (h : St ns l m t ts c d ρ) : W1 (mb_law_5 ρ) fun f => ∃ ρ', f = .nx ρ' ∧ St ns l m t ts c d ρ' := by
  obtain ⟨e2, e3, e7, e8, e9, e10, e11, e12, e13, e14, e15, e16, p2, p3, p7, p8, p9, p10, p11, p12, p13, p14, p15, p16, rfl⟩ := h
  simp (config := {maxSteps := 1000000}) only [p2.all, p3.all, p7.all, p8.all, p9.all, p10.all, p11.all, p12.all, p13.all, p14.all, p15.all, p16.all, mb_law_5, Fj.wp0, Fj.wp1, Fj.wp2, Fj.wp3, Fj.wp4, Fj.wp5, Fj.wp6, Fj.wp7, Fj.wp8, Fj.wp9, Fj.wp10, Fj.wp11, Fj.wp12, Fj.wp13, Fj.wp14, Fj.wp15, Fj.wp16, Fj.wp17, Fj.wp18, Fj.wp19, Fj.wp20, Fj.wp21, Fj.wpz, Fj.wq0, Fj.wq1, Fj.wq2, Fj.tyN, Int.reduceEq, Int.reduceLT, Int.reduceLE, Int.reduceAdd, Int.reduceSub, Int.reduceMul, Int.reduceNeg, Int.reducePow, Int.reduceToNat, Int.reduceMod, Int.reduceDiv, Int.reduceNe, Nat.reduceEqDiff, Nat.reduceMul, borOk, dkAll, dkKept, nlD, nlAll, id, frz, freeE, outsE, pick, merE, wipeE, Nat.reduceAdd, Nat.reduceSub, Nat.reduceLeDiff, Nat.reduceLT, reduceCtorEq, if_true, if_false, eq_self, forall_const, Bool.false_and, frzT, String.reduceEq]
  refine w_forL (fun xs ρ => ∃ (i : Nat) (rest : List (List (Str × Str))), xs = enumD i (rest.map tgD) ∧ (∀ t ∈ rest, Tg t) ∧ St ns l m t ts c d ρ) ?_ ?_ _ _ ⟨0, ts, rfl, hts, e2, e3, e7, e8, e9, e10, e11, e12, e13, e14, e15, e16, p2, p3, p7, p8, p9, p10, p11, p12, p13, p14, p15, p16, rfl⟩
  · skip
    rintro x xs ρ ⟨i, rest, hx, hr, e2, e3, e7, e8, e9, e10, e11, e12, e13, e14, e15, e16, p2, p3, p7, p8, p9, p10, p11, p12, p13, p14, p15, p16, rfl⟩
    cases rest with
    | nil => cases hx
    | cons u rest =>
      cases hx
      have hu := hr u (List.mem_cons_self ..)
      have d1 := does_eq (c := c) (t := u) (by omega) okc hu
      have d2 : mf_does_hold [.val (.tuple [.str "not", c.D]), .val (tgD u)] = some (.val (.bool (!c.hold u)), [.no, .no]) := does_eq (c := .no c) (by unfold Co.dep; omega) okc hu
      have d3 : mf_does_hold [.val (.tuple [.str "both", c.D, d.D]), .val (tgD u)] = some (.val (.bool (c.hold u && d.hold u)), [.no, .no]) := does_eq (c := .bo c d) (by unfold Co.dep; omega) (fun p hp => (List.mem_append.mp hp).elim (okc p) (okd p)) hu
      have d4 : mf_does_hold [.val (.tuple [.str "either", d.D, c.D]), .val (tgD u)] = some (.val (.bool (d.hold u || c.hold u)), [.no, .no]) := does_eq (c := .ei d c) (by unfold Co.dep; omega) (fun p hp => (List.mem_append.mp hp).elim (okd p) (okc p)) hu
      have h1 := q_holds 40 c u (by omega) (by decide) okc hu.ok
      have h2 := q_holds 40 d u (by omega) (by decide) okd hu.ok
      generalize c.hold u = b1 at d1 d2 d3 d4 h1 h2
      generalize d.hold u = b2 at d1 d2 d3 d4 h1 h2
      have r1 := fun S => Fj.g_repr (S := S) (repB b1)
      have r2 := fun S => Fj.g_repr (S := S) (rep3 (!b1) (b1 && b2) (b2 || b1))
      cases b1 <;> cases b2 <;> simp only [Bool.not_true, Bool.not_false, Bool.and_true, Bool.and_false, Bool.or_true, Bool.or_false] at d1 d2 d3 d4 h1 h2 r1 r2 <;> by_cases hi : (i : Int) % 2 = 0 <;> simp (config := {maxSteps := 1000000}) only [p2.all, p3.all, p7.all, p8.all, p9.all, p10.all, p11.all, p12.all, p13.all, p14.all, p15.all, p16.all, h1, h2, mb_law_2, mb_law_3, mb_law_4, d1, d2, d3, d4, hi, r1, r2, Bool.not_true, Bool.not_false, decide_true, decide_false, Fj.wp0, Fj.wp1, Fj.wp2, Fj.wp3, Fj.wp4, Fj.wp5, Fj.wp6, Fj.wp7, Fj.wp8, Fj.wp9, Fj.wp10, Fj.wp11, Fj.wp12, Fj.wp13, Fj.wp14, Fj.wp15, Fj.wp16, Fj.wp17, Fj.wp18, Fj.wp19, Fj.wp20, Fj.wp21, Fj.wpz, Fj.wq0, Fj.wq1, Fj.wq2, Fj.tyN, Int.reduceEq, Int.reduceLT, Int.reduceLE, Int.reduceAdd, Int.reduceSub, Int.reduceMul, Int.reduceNeg, Int.reducePow, Int.reduceToNat, Int.reduceMod, Int.reduceDiv, Int.reduceNe, Nat.reduceEqDiff, Nat.reduceMul, borOk, dkAll, dkKept, nlD, nlAll, id, frz, freeE, outsE, pick, merE, wipeE, Nat.reduceAdd, Nat.reduceSub, Nat.reduceLeDiff, Nat.reduceLT, reduceCtorEq, if_true, if_false, eq_self, forall_const, Bool.false_and, frzT, String.reduceEq] <;> exact ⟨i + 1, rest, rfl, fun t ht => hr t (List.mem_cons_of_mem _ ht), _, _, _, _, _, _, _, _, _, _, _, _, p2, p3, .val, .val, .val, .val, p11, .val, .val, p14, p15, p16, rfl⟩
  · rintro ρ ⟨i, rest, hx, hr, hs⟩
    exact ⟨_, rfl, hs⟩
end L_k16

set_option maxRecDepth 100000
set_option maxHeartbeats 0
set_option linter.all false
set_option linter.unusedSimpArgs false
namespace L_k16
open PySem PySem.Spec PyProof.Rows L2 Fj
theorem of_map {α : Type} {g : α → PyData} {ts : List α} : ∀ {ds : List PyData}, (∀ d ∈ ds, d ∈ ts.map g) → ∃ ws : List α, ds = ws.map g ∧ ∀ w ∈ ws, w ∈ ts
  | [], _ => ⟨[], rfl, fun w h => (List.not_mem_nil h).elim⟩
  | d :: ds, h => by
    obtain ⟨ws, rfl, h1⟩ := of_map fun x hx => h x (List.mem_cons_of_mem _ hx)
    obtain ⟨w, hw, rfl⟩ := List.mem_map.mp (h d (List.mem_cons_self ..))
    exact ⟨w :: ws, rfl, fun v hv => (List.mem_cons.mp hv).elim (fun e => e ▸ hw) (h1 v)⟩
theorem cut_upto (xs : List PyData) (k : Nat) : cutD xs none (some (k : Int)) = xs.take k := by
  unfold Fj.cutD
  rw [HT.sIx_none, HT.sIx_nat, List.drop_zero, Nat.sub_zero, ← List.take_eq_take_min]
theorem law_true (ns : List Int) (hns : ns.length ≤ 63) : ∃ outs, mf_law [.scr ns] = some (.val (.bool true), outs) := by
  suffices h : W (mf_law [.scr ns]) fun e _ => e = .val (.bool true) by
    obtain ⟨e, o, h1, rfl⟩ := h.at_
    exact ⟨o, h1⟩
  simp (config := {maxSteps := 1000000}) only [mf_law, mb_law, Fj.wp0, Fj.wp1, Fj.wp2, Fj.wp3, Fj.wp4, Fj.wp5, Fj.wp6, Fj.wp7, Fj.wp8, Fj.wp9, Fj.wp10, Fj.wp11, Fj.wp12, Fj.wp13, Fj.wp14, Fj.wp15, Fj.wp16, Fj.wp17, Fj.wp18, Fj.wp19, Fj.wp20, Fj.wp21, Fj.wpz, Fj.wq0, Fj.wq1, Fj.wq2, Fj.tyN, Int.reduceEq, Int.reduceLT, Int.reduceLE, Int.reduceAdd, Int.reduceSub, Int.reduceMul, Int.reduceNeg, Int.reducePow, Int.reduceToNat, Int.reduceMod, Int.reduceDiv, Int.reduceNe, Nat.reduceEqDiff, Nat.reduceMul, borOk, dkAll, dkKept, nlD, nlAll, id, frz, freeE, outsE, pick, merE, wipeE, Nat.reduceAdd, Nat.reduceSub, Nat.reduceLeDiff, Nat.reduceLT, reduceCtorEq, if_true, if_false, eq_self, forall_const, Bool.false_and, frzT, String.reduceEq]
  refine (deck_ok ns hns).mono ?_
  rintro _ _ ⟨l, m, t, rfl, hd⟩
  simp (config := {maxSteps := 1000000}) only [mb_law_10, Fj.wp0, Fj.wp1, Fj.wp2, Fj.wp3, Fj.wp4, Fj.wp5, Fj.wp6, Fj.wp7, Fj.wp8, Fj.wp9, Fj.wp10, Fj.wp11, Fj.wp12, Fj.wp13, Fj.wp14, Fj.wp15, Fj.wp16, Fj.wp17, Fj.wp18, Fj.wp19, Fj.wp20, Fj.wp21, Fj.wpz, Fj.wq0, Fj.wq1, Fj.wq2, Fj.tyN, Int.reduceEq, Int.reduceLT, Int.reduceLE, Int.reduceAdd, Int.reduceSub, Int.reduceMul, Int.reduceNeg, Int.reducePow, Int.reduceToNat, Int.reduceMod, Int.reduceDiv, Int.reduceNe, Nat.reduceEqDiff, Nat.reduceMul, borOk, dkAll, dkKept, nlD, nlAll, id, frz, freeE, outsE, pick, merE, wipeE, Nat.reduceAdd, Nat.reduceSub, Nat.reduceLeDiff, Nat.reduceLT, reduceCtorEq, if_true, if_false, eq_self, forall_const, Bool.false_and, frzT, String.reduceEq]
  refine w_forL (fun xs ρ => ∃ js l m t n e2 e3 e4 e5 e6 e7 e8 e9 e10 e11 e12 e13 e14 e15 e16, xs = js.map .int ∧ n + 200000 * js.length ≤ 600000 ∧ DkOk n l m t ∧ Pl e2 ∧ Pl e3 ∧ Pl e4 ∧ Pl e5 ∧ Pl e6 ∧ Pl e7 ∧ Pl e8 ∧ Pl e9 ∧ Pl e10 ∧ Pl e11 ∧ Pl e12 ∧ Pl e13 ∧ Pl e14 ∧ Pl e15 ∧ Pl e16 ∧ ρ = [.scr ns, .own true (.deck 1 l m t), e2, e3, e4, e5, e6, e7, e8, e9, e10, e11, e12, e13, e14, e15, e16]) ?_ ?_ _ _ ⟨[0, 1, 2], l, m, t, 0, _, _, _, _, _, _, _, _, _, _, _, _, _, _, _, rfl, by decide, hd, .no, .no, .no, .no, .no, .no, .no, .no, .no, .no, .no, .no, .no, .no, .no, rfl⟩
  · rintro x xs ρ ⟨js, l, m, t, n, e2, e3, e4, e5, e6, e7, e8, e9, e10, e11, e12, e13, e14, e15, e16, hx, hn, hd, p2, p3, p4, p5, p6, p7, p8, p9, p10, p11, p12, p13, p14, p15, p16, rfl⟩
    cases js with
    | nil => cases hx
    | cons j js =>
      cases hx
      rw [List.length_cons] at hn
      simp (config := {maxSteps := 1000000}) only [p2.all, p3.all, p4.all, p5.all, p6.all, p7.all, p8.all, p9.all, p10.all, p11.all, p12.all, p13.all, p14.all, p15.all, p16.all, Fj.wp0, Fj.wp1, Fj.wp2, Fj.wp3, Fj.wp4, Fj.wp5, Fj.wp6, Fj.wp7, Fj.wp8, Fj.wp9, Fj.wp10, Fj.wp11, Fj.wp12, Fj.wp13, Fj.wp14, Fj.wp15, Fj.wp16, Fj.wp17, Fj.wp18, Fj.wp19, Fj.wp20, Fj.wp21, Fj.wpz, Fj.wq0, Fj.wq1, Fj.wq2, Fj.tyN, Int.reduceEq, Int.reduceLT, Int.reduceLE, Int.reduceAdd, Int.reduceSub, Int.reduceMul, Int.reduceNeg, Int.reducePow, Int.reduceToNat, Int.reduceMod, Int.reduceDiv, Int.reduceNe, Nat.reduceEqDiff, Nat.reduceMul, borOk, dkAll, dkKept, nlD, nlAll, id, frz, freeE, outsE, pick, merE, wipeE, Nat.reduceAdd, Nat.reduceSub, Nat.reduceLeDiff, Nat.reduceLT, reduceCtorEq, if_true, if_false, eq_self, forall_const, Bool.false_and, frzT, String.reduceEq]
      refine (pairs_ok n l m t hd (by omega)).mono ?_
      rintro _ _ ⟨⟨ps, rfl, q1, q2⟩, l1, m1, t1, o, rfl, h1⟩
      simp (config := {maxSteps := 1000000}) only [p2.all, p3.all, p4.all, p5.all, p6.all, p7.all, p8.all, p9.all, p10.all, p11.all, p12.all, p13.all, p14.all, p15.all, p16.all, dd__law_any_condition, Fj.wp0, Fj.wp1, Fj.wp2, Fj.wp3, Fj.wp4, Fj.wp5, Fj.wp6, Fj.wp7, Fj.wp8, Fj.wp9, Fj.wp10, Fj.wp11, Fj.wp12, Fj.wp13, Fj.wp14, Fj.wp15, Fj.wp16, Fj.wp17, Fj.wp18, Fj.wp19, Fj.wp20, Fj.wp21, Fj.wpz, Fj.wq0, Fj.wq1, Fj.wq2, Fj.tyN, Int.reduceEq, Int.reduceLT, Int.reduceLE, Int.reduceAdd, Int.reduceSub, Int.reduceMul, Int.reduceNeg, Int.reducePow, Int.reduceToNat, Int.reduceMod, Int.reduceDiv, Int.reduceNe, Nat.reduceEqDiff, Nat.reduceMul, borOk, dkAll, dkKept, nlD, nlAll, id, frz, freeE, outsE, pick, merE, wipeE, Nat.reduceAdd, Nat.reduceSub, Nat.reduceLeDiff, Nat.reduceLT, reduceCtorEq, if_true, if_false, eq_self, forall_const, Bool.false_and, frzT, String.reduceEq]
      refine (cond_ok q2 (by omega) 3 39 9 (by decide) (by decide) (by decide) (by decide) _ l1 m1 t1 h1 (by have := cst_up (d := 3) (by decide); omega)).mono ?_
      rintro _ _ ⟨⟨c, rfl, c1, c2, c3⟩, l2, m2, t2, o, rfl, h2⟩
      replace h2 := dk_mono h2 (show _ ≤ n + 1000 by have := cst_up (d := 3) (by decide); omega)
      simp (config := {maxSteps := 1000000}) only [p2.all, p3.all, p4.all, p5.all, p6.all, p7.all, p8.all, p9.all, p10.all, p11.all, p12.all, p13.all, p14.all, p15.all, p16.all, dd__law_any_condition, Fj.wp0, Fj.wp1, Fj.wp2, Fj.wp3, Fj.wp4, Fj.wp5, Fj.wp6, Fj.wp7, Fj.wp8, Fj.wp9, Fj.wp10, Fj.wp11, Fj.wp12, Fj.wp13, Fj.wp14, Fj.wp15, Fj.wp16, Fj.wp17, Fj.wp18, Fj.wp19, Fj.wp20, Fj.wp21, Fj.wpz, Fj.wq0, Fj.wq1, Fj.wq2, Fj.tyN, Int.reduceEq, Int.reduceLT, Int.reduceLE, Int.reduceAdd, Int.reduceSub, Int.reduceMul, Int.reduceNeg, Int.reducePow, Int.reduceToNat, Int.reduceMod, Int.reduceDiv, Int.reduceNe, Nat.reduceEqDiff, Nat.reduceMul, borOk, dkAll, dkKept, nlD, nlAll, id, frz, freeE, outsE, pick, merE, wipeE, Nat.reduceAdd, Nat.reduceSub, Nat.reduceLeDiff, Nat.reduceLT, reduceCtorEq, if_true, if_false, eq_self, forall_const, Bool.false_and, frzT, String.reduceEq]
      refine (cond_ok q2 (by omega) 3 39 2 (by decide) (by decide) (by decide) (by decide) _ l2 m2 t2 h2 (by have := cst_up (d := 3) (by decide); omega)).mono ?_
      rintro _ _ ⟨⟨d, rfl, d1, d2, d3⟩, l3, m3, t3, o, rfl, h3⟩
      replace h3 := dk_mono h3 (show _ ≤ n + 2000 by have := cst_up (d := 3) (by decide); omega)
      simp (config := {maxSteps := 1000000}) only [p2.all, p3.all, p4.all, p5.all, p6.all, p7.all, p8.all, p9.all, p10.all, p11.all, p12.all, p13.all, p14.all, p15.all, p16.all, Fj.wp0, Fj.wp1, Fj.wp2, Fj.wp3, Fj.wp4, Fj.wp5, Fj.wp6, Fj.wp7, Fj.wp8, Fj.wp9, Fj.wp10, Fj.wp11, Fj.wp12, Fj.wp13, Fj.wp14, Fj.wp15, Fj.wp16, Fj.wp17, Fj.wp18, Fj.wp19, Fj.wp20, Fj.wp21, Fj.wpz, Fj.wq0, Fj.wq1, Fj.wq2, Fj.tyN, Int.reduceEq, Int.reduceLT, Int.reduceLE, Int.reduceAdd, Int.reduceSub, Int.reduceMul, Int.reduceNeg, Int.reducePow, Int.reduceToNat, Int.reduceMod, Int.reduceDiv, Int.reduceNe, Nat.reduceEqDiff, Nat.reduceMul, borOk, dkAll, dkKept, nlD, nlAll, id, frz, freeE, outsE, pick, merE, wipeE, Nat.reduceAdd, Nat.reduceSub, Nat.reduceLeDiff, Nat.reduceLT, reduceCtorEq, if_true, if_false, eq_self, forall_const, Bool.false_and, frzT, String.reduceEq]
      refine (q_all (c := c) (by omega) (by omega) c3).mono ?_
      rintro _ _ ⟨rfl, ts, rfl, t1', t2'⟩
      simp (config := {maxSteps := 1000000}) only [p2.all, p3.all, p4.all, p5.all, p6.all, p7.all, p8.all, p9.all, p10.all, p11.all, p12.all, p13.all, p14.all, p15.all, p16.all, Fj.wp0, Fj.wp1, Fj.wp2, Fj.wp3, Fj.wp4, Fj.wp5, Fj.wp6, Fj.wp7, Fj.wp8, Fj.wp9, Fj.wp10, Fj.wp11, Fj.wp12, Fj.wp13, Fj.wp14, Fj.wp15, Fj.wp16, Fj.wp17, Fj.wp18, Fj.wp19, Fj.wp20, Fj.wp21, Fj.wpz, Fj.wq0, Fj.wq1, Fj.wq2, Fj.tyN, Int.reduceEq, Int.reduceLT, Int.reduceLE, Int.reduceAdd, Int.reduceSub, Int.reduceMul, Int.reduceNeg, Int.reducePow, Int.reduceToNat, Int.reduceMod, Int.reduceDiv, Int.reduceNe, Nat.reduceEqDiff, Nat.reduceMul, borOk, dkAll, dkKept, nlD, nlAll, id, frz, freeE, outsE, pick, merE, wipeE, Nat.reduceAdd, Nat.reduceSub, Nat.reduceLeDiff, Nat.reduceLT, reduceCtorEq, if_true, if_false, eq_self, forall_const, Bool.false_and, frzT, String.reduceEq]
      refine (mixed_ok (ts.map tgD) (by rw [List.length_map]; omega) _ l3 m3 t3 h3 (by omega)).mono ?_
      rintro _ _ ⟨⟨ds, rfl, e1, e2⟩, l4, m4, t4, o, rfl, h4⟩
      simp (config := {maxSteps := 1000000}) only [p2.all, p3.all, p4.all, p5.all, p6.all, p7.all, p8.all, p9.all, p10.all, p11.all, p12.all, p13.all, p14.all, p15.all, p16.all, lc_law_1, Fj.wp0, Fj.wp1, Fj.wp2, Fj.wp3, Fj.wp4, Fj.wp5, Fj.wp6, Fj.wp7, Fj.wp8, Fj.wp9, Fj.wp10, Fj.wp11, Fj.wp12, Fj.wp13, Fj.wp14, Fj.wp15, Fj.wp16, Fj.wp17, Fj.wp18, Fj.wp19, Fj.wp20, Fj.wp21, Fj.wpz, Fj.wq0, Fj.wq1, Fj.wq2, Fj.tyN, Int.reduceEq, Int.reduceLT, Int.reduceLE, Int.reduceAdd, Int.reduceSub, Int.reduceMul, Int.reduceNeg, Int.reducePow, Int.reduceToNat, Int.reduceMod, Int.reduceDiv, Int.reduceNe, Nat.reduceEqDiff, Nat.reduceMul, borOk, dkAll, dkKept, nlD, nlAll, id, frz, freeE, outsE, pick, merE, wipeE, Nat.reduceAdd, Nat.reduceSub, Nat.reduceLeDiff, Nat.reduceLT, reduceCtorEq, if_true, if_false, eq_self, forall_const, Bool.false_and, frzT, String.reduceEq]
      refine w_lcL (fun xs acc ρ => ∃ js2 us l' m' t' n', xs = js2.map .int ∧ acc = us.map tgD ∧ us.length + js2.length = 3 ∧ (∀ u ∈ us, Tg u ∧ u.length ≤ 12) ∧ n' + 11000 * js2.length ≤ n + 50000 ∧ DkOk n' l' m' t' ∧ ρ = [.scr ns, .own true (.deck 1 l' m' t'), .val (.int j), .val (.list (ps.map kvD)), e4, .val c.D, .val d.D, e7, e8, e9, e10, e11, e12, e13, .no, e15, e16]) ?_ ?_ _ _ _ ⟨[0, 1, 2], [], l4, m4, t4, n + 2000 + 10000, rfl, rfl, rfl, fun u h => (List.not_mem_nil h).elim, by show n + 2000 + 10000 + 11000 * 3 ≤ _; omega, h4, rfl⟩
      · rintro x xs acc ρ ⟨js2, us, l', m', t', n', hx, rfl, u1, u2, u3, u4, rfl⟩
        cases js2 with
        | nil => cases hx
        | cons j2 js2 =>
          cases hx
          rw [List.length_cons] at u1 u3
          simp (config := {maxSteps := 1000000}) only [p2.all, p3.all, p4.all, p5.all, p6.all, p7.all, p8.all, p9.all, p10.all, p11.all, p12.all, p13.all, p14.all, p15.all, p16.all, Fj.wp0, Fj.wp1, Fj.wp2, Fj.wp3, Fj.wp4, Fj.wp5, Fj.wp6, Fj.wp7, Fj.wp8, Fj.wp9, Fj.wp10, Fj.wp11, Fj.wp12, Fj.wp13, Fj.wp14, Fj.wp15, Fj.wp16, Fj.wp17, Fj.wp18, Fj.wp19, Fj.wp20, Fj.wp21, Fj.wpz, Fj.wq0, Fj.wq1, Fj.wq2, Fj.tyN, Int.reduceEq, Int.reduceLT, Int.reduceLE, Int.reduceAdd, Int.reduceSub, Int.reduceMul, Int.reduceNeg, Int.reducePow, Int.reduceToNat, Int.reduceMod, Int.reduceDiv, Int.reduceNe, Nat.reduceEqDiff, Nat.reduceMul, borOk, dkAll, dkKept, nlD, nlAll, id, frz, freeE, outsE, pick, merE, wipeE, Nat.reduceAdd, Nat.reduceSub, Nat.reduceLeDiff, Nat.reduceLT, reduceCtorEq, if_true, if_false, eq_self, forall_const, Bool.false_and, frzT, String.reduceEq]
          refine (target_ok q2 q1 n' l' m' t' u4 (by omega)).mono ?_
          rintro _ _ ⟨⟨u, rfl, v1, v2⟩, l'', m'', t'', o, rfl, h6⟩
          simp (config := {maxSteps := 1000000}) only [p2.all, p3.all, p4.all, p5.all, p6.all, p7.all, p8.all, p9.all, p10.all, p11.all, p12.all, p13.all, p14.all, p15.all, p16.all, List.length_map, Fj.wp0, Fj.wp1, Fj.wp2, Fj.wp3, Fj.wp4, Fj.wp5, Fj.wp6, Fj.wp7, Fj.wp8, Fj.wp9, Fj.wp10, Fj.wp11, Fj.wp12, Fj.wp13, Fj.wp14, Fj.wp15, Fj.wp16, Fj.wp17, Fj.wp18, Fj.wp19, Fj.wp20, Fj.wp21, Fj.wpz, Fj.wq0, Fj.wq1, Fj.wq2, Fj.tyN, Int.reduceEq, Int.reduceLT, Int.reduceLE, Int.reduceAdd, Int.reduceSub, Int.reduceMul, Int.reduceNeg, Int.reducePow, Int.reduceToNat, Int.reduceMod, Int.reduceDiv, Int.reduceNe, Nat.reduceEqDiff, Nat.reduceMul, borOk, dkAll, dkKept, nlD, nlAll, id, frz, freeE, outsE, pick, merE, wipeE, Nat.reduceAdd, Nat.reduceSub, Nat.reduceLeDiff, Nat.reduceLT, reduceCtorEq, if_true, if_false, eq_self, forall_const, Bool.false_and, frzT, String.reduceEq]
          exact ⟨by omega, js2, us ++ [u], l'', m'', t'', n' + 11000, rfl, by rw [List.map_append]; rfl, by rw [List.length_append, List.length_singleton]; omega, fun w hw => (List.mem_append.mp hw).elim (u2 w) fun z => by rw [List.mem_singleton.mp z]; exact ⟨v1, v2⟩, by omega, h6, rfl⟩
      rintro acc ρ ⟨js2, us, l5, m5, t5, n5, hx, rfl, u1, u2, u3, h5, rfl⟩
      have : js2 = [] := List.map_eq_nil_iff.mp hx.symm
      subst this
      rw [List.length_nil] at u1 u3
      obtain ⟨ws, ew, w1, w2⟩ : ∃ ws : List (List (Str × Str)), cutD ds none (some 4) = ws.map tgD ∧ ws.length ≤ 4 ∧ ∀ w ∈ ws, Tg w ∧ w.length ≤ 12 := by
        obtain ⟨ws, e, h⟩ := of_map (ds := ds.take 4) fun d hd => e2 d (List.mem_of_mem_take hd)
        refine ⟨ws, (cut_upto ds 4).trans e, ?_, fun w hw => t1' w (h w hw)⟩
        have := congrArg List.length e
        rw [List.length_map, List.length_take] at this
        omega
      have hall : ∀ w ∈ ws ++ us, Tg w ∧ w.length ≤ 12 := fun w hw => (List.mem_append.mp hw).elim (w2 w) (u2 w)
      simp (config := {maxSteps := 1000000}) only [p2.all, p3.all, p4.all, p5.all, p6.all, p7.all, p8.all, p9.all, p10.all, p11.all, p12.all, p13.all, p14.all, p15.all, p16.all, ew, List.length_map, ← List.map_append, Fj.wp0, Fj.wp1, Fj.wp2, Fj.wp3, Fj.wp4, Fj.wp5, Fj.wp6, Fj.wp7, Fj.wp8, Fj.wp9, Fj.wp10, Fj.wp11, Fj.wp12, Fj.wp13, Fj.wp14, Fj.wp15, Fj.wp16, Fj.wp17, Fj.wp18, Fj.wp19, Fj.wp20, Fj.wp21, Fj.wpz, Fj.wq0, Fj.wq1, Fj.wq2, Fj.tyN, Int.reduceEq, Int.reduceLT, Int.reduceLE, Int.reduceAdd, Int.reduceSub, Int.reduceMul, Int.reduceNeg, Int.reducePow, Int.reduceToNat, Int.reduceMod, Int.reduceDiv, Int.reduceNe, Nat.reduceEqDiff, Nat.reduceMul, borOk, dkAll, dkKept, nlD, nlAll, id, frz, freeE, outsE, pick, merE, wipeE, Nat.reduceAdd, Nat.reduceSub, Nat.reduceLeDiff, Nat.reduceLT, reduceCtorEq, if_true, if_false, eq_self, forall_const, Bool.false_and, frzT, String.reduceEq]
      refine ⟨by omega, ?_⟩
      refine (tests_ok (c := c) (d := d) (ts := ws ++ us) (by omega) (by omega) c3 d3 (fun t ht => (hall t ht).1) ⟨_, _, _, _, _, _, _, _, _, _, _, _, .val, .val, p7, p8, p9, p10, p11, p12, p13, .no, p15, p16, rfl⟩).mono ?_
      rintro _ ⟨ρ, rfl, hst⟩
      obtain ⟨e2, e3, e7, e8, e9, e10, e11, e12, e13, e14, e15, e16, p2, p3, p7, p8, p9, p10, p11, p12, p13, p14, p15, p16, rfl⟩ := hst
      simp (config := {maxSteps := 1000000}) only [p2.all, p3.all, p7.all, p8.all, p9.all, p10.all, p11.all, p12.all, p13.all, p14.all, p15.all, p16.all, Fj.wp0, Fj.wp1, Fj.wp2, Fj.wp3, Fj.wp4, Fj.wp5, Fj.wp6, Fj.wp7, Fj.wp8, Fj.wp9, Fj.wp10, Fj.wp11, Fj.wp12, Fj.wp13, Fj.wp14, Fj.wp15, Fj.wp16, Fj.wp17, Fj.wp18, Fj.wp19, Fj.wp20, Fj.wp21, Fj.wpz, Fj.wq0, Fj.wq1, Fj.wq2, Fj.tyN, Int.reduceEq, Int.reduceLT, Int.reduceLE, Int.reduceAdd, Int.reduceSub, Int.reduceMul, Int.reduceNeg, Int.reducePow, Int.reduceToNat, Int.reduceMod, Int.reduceDiv, Int.reduceNe, Nat.reduceEqDiff, Nat.reduceMul, borOk, dkAll, dkKept, nlD, nlAll, id, frz, freeE, outsE, pick, merE, wipeE, Nat.reduceAdd, Nat.reduceSub, Nat.reduceLeDiff, Nat.reduceLT, reduceCtorEq, if_true, if_false, eq_self, forall_const, Bool.false_and, frzT, String.reduceEq]
      refine (pick_ok n5 l5 m5 t5 _ h5 (by omega) (fun z => by have := congrArg List.length z; rw [List.length_map, List.length_append, List.length_nil] at this; omega) (by rw [List.length_map, List.length_append]; omega)).mono ?_
      rintro _ _ ⟨d', l6, m6, t6, o, hmm, rfl, rfl, h6⟩
      obtain ⟨u, hum, rfl⟩ := List.mem_map.mp hmm
      obtain ⟨hu, hul⟩ := hall u hum
      simp (config := {maxSteps := 1000000}) only [p2.all, p3.all, p7.all, p8.all, p9.all, p10.all, p11.all, p12.all, p13.all, p14.all, p15.all, p16.all, Fj.wp0, Fj.wp1, Fj.wp2, Fj.wp3, Fj.wp4, Fj.wp5, Fj.wp6, Fj.wp7, Fj.wp8, Fj.wp9, Fj.wp10, Fj.wp11, Fj.wp12, Fj.wp13, Fj.wp14, Fj.wp15, Fj.wp16, Fj.wp17, Fj.wp18, Fj.wp19, Fj.wp20, Fj.wp21, Fj.wpz, Fj.wq0, Fj.wq1, Fj.wq2, Fj.tyN, Int.reduceEq, Int.reduceLT, Int.reduceLE, Int.reduceAdd, Int.reduceSub, Int.reduceMul, Int.reduceNeg, Int.reducePow, Int.reduceToNat, Int.reduceMod, Int.reduceDiv, Int.reduceNe, Nat.reduceEqDiff, Nat.reduceMul, borOk, dkAll, dkKept, nlD, nlAll, id, frz, freeE, outsE, pick, merE, wipeE, Nat.reduceAdd, Nat.reduceSub, Nat.reduceLeDiff, Nat.reduceLT, reduceCtorEq, if_true, if_false, eq_self, forall_const, Bool.false_and, frzT, String.reduceEq]
      refine (word_ok _ l6 m6 t6 h6 (by omega)).mono ?_
      rintro _ _ ⟨⟨x, hx, rfl⟩, l7, m7, t7, o, rfl, h7⟩
      have hp := q_prs 40 c (by omega) (by decide) (by omega)
      simp (config := {maxSteps := 1000000}) only [p2.all, p3.all, p7.all, p8.all, p9.all, p10.all, p11.all, p12.all, p13.all, p14.all, p15.all, p16.all, mb_law_9, hp, lc_law_6, lc_law_7, Fj.wp0, Fj.wp1, Fj.wp2, Fj.wp3, Fj.wp4, Fj.wp5, Fj.wp6, Fj.wp7, Fj.wp8, Fj.wp9, Fj.wp10, Fj.wp11, Fj.wp12, Fj.wp13, Fj.wp14, Fj.wp15, Fj.wp16, Fj.wp17, Fj.wp18, Fj.wp19, Fj.wp20, Fj.wp21, Fj.wpz, Fj.wq0, Fj.wq1, Fj.wq2, Fj.tyN, Int.reduceEq, Int.reduceLT, Int.reduceLE, Int.reduceAdd, Int.reduceSub, Int.reduceMul, Int.reduceNeg, Int.reducePow, Int.reduceToNat, Int.reduceMod, Int.reduceDiv, Int.reduceNe, Nat.reduceEqDiff, Nat.reduceMul, borOk, dkAll, dkKept, nlD, nlAll, id, frz, freeE, outsE, pick, merE, wipeE, Nat.reduceAdd, Nat.reduceSub, Nat.reduceLeDiff, Nat.reduceLT, reduceCtorEq, if_true, if_false, eq_self, forall_const, Bool.false_and, frzT, String.reduceEq]
      have hcl := prs_len c
      refine w_lcMap (xs := c.prs) kvD (fun p => .str p.1) (fun p hpm => ?_) (by omega) ?_
      · simp (config := {maxSteps := 1000000}) only [Fj.wp0, Fj.wp1, Fj.wp2, Fj.wp3, Fj.wp4, Fj.wp5, Fj.wp6, Fj.wp7, Fj.wp8, Fj.wp9, Fj.wp10, Fj.wp11, Fj.wp12, Fj.wp13, Fj.wp14, Fj.wp15, Fj.wp16, Fj.wp17, Fj.wp18, Fj.wp19, Fj.wp20, Fj.wp21, Fj.wpz, Fj.wq0, Fj.wq1, Fj.wq2, Fj.tyN, Int.reduceEq, Int.reduceLT, Int.reduceLE, Int.reduceAdd, Int.reduceSub, Int.reduceMul, Int.reduceNeg, Int.reducePow, Int.reduceToNat, Int.reduceMod, Int.reduceDiv, Int.reduceNe, Nat.reduceEqDiff, Nat.reduceMul, borOk, dkAll, dkKept, nlD, nlAll, id, frz, freeE, outsE, pick, merE, wipeE, Nat.reduceAdd, Nat.reduceSub, Nat.reduceLeDiff, Nat.reduceLT, reduceCtorEq, if_true, if_false, eq_self, forall_const, Bool.false_and, frzT, String.reduceEq]
      simp (config := {maxSteps := 1000000}) only [p2.all, p3.all, p7.all, p8.all, p9.all, p10.all, p11.all, p12.all, p13.all, p14.all, p15.all, p16.all, Fj.wp0, Fj.wp1, Fj.wp2, Fj.wp3, Fj.wp4, Fj.wp5, Fj.wp6, Fj.wp7, Fj.wp8, Fj.wp9, Fj.wp10, Fj.wp11, Fj.wp12, Fj.wp13, Fj.wp14, Fj.wp15, Fj.wp16, Fj.wp17, Fj.wp18, Fj.wp19, Fj.wp20, Fj.wp21, Fj.wpz, Fj.wq0, Fj.wq1, Fj.wq2, Fj.tyN, Int.reduceEq, Int.reduceLT, Int.reduceLE, Int.reduceAdd, Int.reduceSub, Int.reduceMul, Int.reduceNeg, Int.reducePow, Int.reduceToNat, Int.reduceMod, Int.reduceDiv, Int.reduceNe, Nat.reduceEqDiff, Nat.reduceMul, borOk, dkAll, dkKept, nlD, nlAll, id, frz, freeE, outsE, pick, merE, wipeE, Nat.reduceAdd, Nat.reduceSub, Nat.reduceLeDiff, Nat.reduceLT, reduceCtorEq, if_true, if_false, eq_self, forall_const, Bool.false_and, frzT, String.reduceEq]
      refine w_lcMap (xs := u) kvD (fun p => .str p.1) (fun p hpm => ?_) (by omega) ?_
      · simp (config := {maxSteps := 1000000}) only [Fj.wp0, Fj.wp1, Fj.wp2, Fj.wp3, Fj.wp4, Fj.wp5, Fj.wp6, Fj.wp7, Fj.wp8, Fj.wp9, Fj.wp10, Fj.wp11, Fj.wp12, Fj.wp13, Fj.wp14, Fj.wp15, Fj.wp16, Fj.wp17, Fj.wp18, Fj.wp19, Fj.wp20, Fj.wp21, Fj.wpz, Fj.wq0, Fj.wq1, Fj.wq2, Fj.tyN, Int.reduceEq, Int.reduceLT, Int.reduceLE, Int.reduceAdd, Int.reduceSub, Int.reduceMul, Int.reduceNeg, Int.reducePow, Int.reduceToNat, Int.reduceMod, Int.reduceDiv, Int.reduceNe, Nat.reduceEqDiff, Nat.reduceMul, borOk, dkAll, dkKept, nlD, nlAll, id, frz, freeE, outsE, pick, merE, wipeE, Nat.reduceAdd, Nat.reduceSub, Nat.reduceLeDiff, Nat.reduceLT, reduceCtorEq, if_true, if_false, eq_self, forall_const, Bool.false_and, frzT, String.reduceEq]
      have emap : c.prs.map (fun p => PyData.str p.1) ++ u.map (fun p => PyData.str p.1) = (c.prs.map (·.1) ++ u.map (·.1)).map .str := by
        rw [List.map_append, List.map_map, List.map_map]
        rfl
      have hkw : ∀ y ∈ c.prs.map (·.1) ++ u.map (·.1), okW y := fun y hy => by
        rcases List.mem_append.mp hy with z | z
        · obtain ⟨p, hp, rfl⟩ := List.mem_map.mp z
          exact (c3 p hp).1
        · obtain ⟨p, hp, rfl⟩ := List.mem_map.mp z
          exact (hu.ok p hp).1
      have hni := fun Q => g_ninL (Q := Q) (d := .str x) (b := decide (x ∈ c.prs.map (·.1) ++ u.map (·.1))) (ds := (c.prs.map (·.1) ++ u.map (·.1)).map .str) (by unfold SeqAt.shaped PyData.canLay0 PyData.depth; rw [hx.strOk]; rfl) (keys_shaped hkw) rfl (fun y hy => by obtain ⟨k, _, rfl⟩ := List.mem_map.mp hy; rfl) (by rw [decide_eq_true_iff]; exact ⟨fun h => List.mem_map.mpr ⟨x, h, rfl⟩, fun h => by obtain ⟨k, hk, e⟩ := List.mem_map.mp h; cases e; exact hk⟩)
      simp (config := {maxSteps := 1000000}) only [p2.all, p3.all, p7.all, p8.all, p9.all, p10.all, p11.all, p12.all, p13.all, p14.all, p15.all, p16.all, emap, hni, List.length_map, Fj.wp0, Fj.wp1, Fj.wp2, Fj.wp3, Fj.wp4, Fj.wp5, Fj.wp6, Fj.wp7, Fj.wp8, Fj.wp9, Fj.wp10, Fj.wp11, Fj.wp12, Fj.wp13, Fj.wp14, Fj.wp15, Fj.wp16, Fj.wp17, Fj.wp18, Fj.wp19, Fj.wp20, Fj.wp21, Fj.wpz, Fj.wq0, Fj.wq1, Fj.wq2, Fj.tyN, Int.reduceEq, Int.reduceLT, Int.reduceLE, Int.reduceAdd, Int.reduceSub, Int.reduceMul, Int.reduceNeg, Int.reducePow, Int.reduceToNat, Int.reduceMod, Int.reduceDiv, Int.reduceNe, Nat.reduceEqDiff, Nat.reduceMul, borOk, dkAll, dkKept, nlD, nlAll, id, frz, freeE, outsE, pick, merE, wipeE, Nat.reduceAdd, Nat.reduceSub, Nat.reduceLeDiff, Nat.reduceLT, reduceCtorEq, if_true, if_false, eq_self, forall_const, Bool.false_and, frzT, String.reduceEq]
      refine ⟨by omega, ?_⟩
      by_cases hin : x ∈ c.prs.map (·.1) ++ u.map (·.1)
      · simp (config := {maxSteps := 1000000}) only [hin, decide_true, Bool.not_true, Fj.wp0, Fj.wp1, Fj.wp2, Fj.wp3, Fj.wp4, Fj.wp5, Fj.wp6, Fj.wp7, Fj.wp8, Fj.wp9, Fj.wp10, Fj.wp11, Fj.wp12, Fj.wp13, Fj.wp14, Fj.wp15, Fj.wp16, Fj.wp17, Fj.wp18, Fj.wp19, Fj.wp20, Fj.wp21, Fj.wpz, Fj.wq0, Fj.wq1, Fj.wq2, Fj.tyN, Int.reduceEq, Int.reduceLT, Int.reduceLE, Int.reduceAdd, Int.reduceSub, Int.reduceMul, Int.reduceNeg, Int.reducePow, Int.reduceToNat, Int.reduceMod, Int.reduceDiv, Int.reduceNe, Nat.reduceEqDiff, Nat.reduceMul, borOk, dkAll, dkKept, nlD, nlAll, id, frz, freeE, outsE, pick, merE, wipeE, Nat.reduceAdd, Nat.reduceSub, Nat.reduceLeDiff, Nat.reduceLT, reduceCtorEq, if_true, if_false, eq_self, forall_const, Bool.false_and, frzT, String.reduceEq]
        exact ⟨js, l7, m7, t7, n + 100000, _, _, _, _, _, _, _, _, _, _, _, _, _, _, _, rfl, by omega, dk_mono h7 (by omega), p2, p3, .val, .val, .val, p7, .val, p9, p10, .val, p12, p13, p14, .no, .no, rfl⟩
      · have hold := q_holds 40 c u (by omega) (by decide) c3 hu.ok
        have hv : ∀ p ∈ u ++ [(x, x)], okQ p := fun p hp => (List.mem_append.mp hp).elim (hu.ok p) fun z => by rw [List.mem_singleton.mp z]; exact ⟨hx, hx⟩
        have hnk : x ∉ u.map (·.1) := fun z => hin (List.mem_append_right _ z)
        have hnd : ((u ++ [(x, x)]).map (·.1)).Nodup := by
          rw [List.map_append]
          exact List.nodup_append.mpr ⟨hu.nd, by simp, fun a ha b hb e => hnk (by have := List.mem_singleton.mp hb; rw [e, this] at ha; exact ha)⟩
        have htg := srtP_tg hv hnd (by rw [List.length_append, List.length_singleton]; omega)
        have hd2 := does_eq (c := c) (by omega) c3 htg
        have he : c.hold (srtP (u ++ [(x, x)])) = c.hold u := hold_ext fun p hp => by
          rw [(srtP_perm _).mem_iff, List.mem_append, List.mem_singleton]
          exact ⟨fun z => z.elim id fun e => absurd (List.mem_append_left _ (List.mem_map.mpr ⟨p, hp, by rw [e]⟩)) hin, .inl⟩
        rw [he] at hd2
        have r1 := fun S => Fj.g_repr (S := S) (repB (c.hold u))
        have hg := fun R => g_sbPT (ps := u ++ [(x, x)]) (fun p hp => (hv p hp).okP) (by rw [List.length_append, List.length_singleton]; omega) (R := R)
        have eap : u.map kvD ++ [.tuple [.str x, .str x]] = (u ++ [(x, x)]).map kvD := by rw [List.map_append]; rfl
        simp (config := {maxSteps := 1000000}) only [hin, decide_false, Bool.not_false, mb_law_8, hold, eap, hg, hd2, r1, List.length_map, Fj.wp0, Fj.wp1, Fj.wp2, Fj.wp3, Fj.wp4, Fj.wp5, Fj.wp6, Fj.wp7, Fj.wp8, Fj.wp9, Fj.wp10, Fj.wp11, Fj.wp12, Fj.wp13, Fj.wp14, Fj.wp15, Fj.wp16, Fj.wp17, Fj.wp18, Fj.wp19, Fj.wp20, Fj.wp21, Fj.wpz, Fj.wq0, Fj.wq1, Fj.wq2, Fj.tyN, Int.reduceEq, Int.reduceLT, Int.reduceLE, Int.reduceAdd, Int.reduceSub, Int.reduceMul, Int.reduceNeg, Int.reducePow, Int.reduceToNat, Int.reduceMod, Int.reduceDiv, Int.reduceNe, Nat.reduceEqDiff, Nat.reduceMul, borOk, dkAll, dkKept, nlD, nlAll, id, frz, freeE, outsE, pick, merE, wipeE, Nat.reduceAdd, Nat.reduceSub, Nat.reduceLeDiff, Nat.reduceLT, reduceCtorEq, if_true, if_false, eq_self, forall_const, Bool.false_and, frzT, String.reduceEq]
        exact ⟨by omega, js, l7, m7, t7, n + 100000, _, _, _, _, _, _, _, _, _, _, _, _, _, _, _, rfl, by omega, dk_mono h7 (by omega), p2, p3, .val, .val, .val, p7, .val, p9, p10, .val, p12, p13, p14, .no, .no, rfl⟩
  · rintro ρ ⟨js, l, m, t, n, e2, e3, e4, e5, e6, e7, e8, e9, e10, e11, e12, e13, e14, e15, e16, hx, hn, hd, p2, p3, p4, p5, p6, p7, p8, p9, p10, p11, p12, p13, p14, p15, p16, rfl⟩
    simp (config := {maxSteps := 1000000}) only [Fj.wp0, Fj.wp1, Fj.wp2, Fj.wp3, Fj.wp4, Fj.wp5, Fj.wp6, Fj.wp7, Fj.wp8, Fj.wp9, Fj.wp10, Fj.wp11, Fj.wp12, Fj.wp13, Fj.wp14, Fj.wp15, Fj.wp16, Fj.wp17, Fj.wp18, Fj.wp19, Fj.wp20, Fj.wp21, Fj.wpz, Fj.wq0, Fj.wq1, Fj.wq2, Fj.tyN, Int.reduceEq, Int.reduceLT, Int.reduceLE, Int.reduceAdd, Int.reduceSub, Int.reduceMul, Int.reduceNeg, Int.reducePow, Int.reduceToNat, Int.reduceMod, Int.reduceDiv, Int.reduceNe, Nat.reduceEqDiff, Nat.reduceMul, borOk, dkAll, dkKept, nlD, nlAll, id, frz, freeE, outsE, pick, merE, wipeE, Nat.reduceAdd, Nat.reduceSub, Nat.reduceLeDiff, Nat.reduceLT, reduceCtorEq, if_true, if_false, eq_self, forall_const, Bool.false_and, frzT, String.reduceEq]
end L_k16

open PySem PySem.W PySem.Calls PyProof.Rows
theorem PySem.Challenge.cw_facejudge_k16_whole_conditions_by_their_holds : PySem.Challenge.rw_facejudge_k16_whole_conditions_by_their.Holds := by
  w_on; o_law
  refine HandSHeadRun.head_any (r := OpenLaw.row PySem.Challenge.rw_facejudge_k16_whole_conditions_by_their) (q := view (OpenLaw.row PySem.Challenge.rw_facejudge_k16_whole_conditions_by_their).prog [34]) (H := L_k16.hk) (ob := L_k16.ob) (M := 2500) (loose := L_k16.names) (d := HandSHeadRun.topDef (OpenLaw.row PySem.Challenge.rw_facejudge_k16_whole_conditions_by_their).prog 34) (kwd := []) L_k16.ob_eq
    (by kernel_rfl) (fun s => by kernel_rfl) L_k16.run (by kernel_rfl) (by kernel_rfl) (by kernel_rfl) (by rfl) (by first | assumption | decide +kernel) (by decide +kernel) ⟨rfl, rfl, rfl, rfl, rfl, by decide +kernel⟩ ?hw ?hc
  case hw => w_witness2
  case hc =>
    refine Fj.walk_G (l := PySem.Challenge.rw_facejudge_k16_whole_conditions_by_their) (n := 63) (k := 46) (x := "script") rfl (by decide) (by kernel_rfl) ⟨rfl, by decide, by decide⟩ ?F
    intro w mg fa h Y G hmg0
    obtain ⟨K, KX, c⟩ := Y
    have hmg : mg ("law" : PySem.Str) = some (.ref fa) := by
      have e : (HandSHeadRun.topDef (OpenLaw.row PySem.Challenge.rw_facejudge_k16_whole_conditions_by_their).prog 34).name = ("law" : PySem.Str) := by kernel_rfl
      rw [← e]
      exact hmg0
    obtain ⟨fd, hb, hF⟩ := L_k16.facts (P := (PySem.Challenge.rw_facejudge_k16_whole_conditions_by_their).prog) (w := w) KX G hmg c
    exact ⟨K, fd, L_k16.mf_law, KX, hb, fun ns hl => L_k16.law_true ns hl, fun base _ _ => hF base⟩
